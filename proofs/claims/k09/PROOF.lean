import PyProof.Rows.All
import Wide.All
import OpenK.AllK
import Wide.FinOn
import HandS.ForMost
import HandS.Wide
import HandS.Style
import HandS.IsInst
import HandS.More
import PyProof.ReprRoads
import HandS.RaiseMore
import HandS.EndBits
import HandS.Conv
import HandS.SetFor
import HandS.SortInts
import HandS.Strs
import HandS.SetBool
import PyProof.SetRoads
import PyProof.Rows.CountFlat
import HandS.Star
import KE.KUnpackStar
import KE.DataCmp
import KE.SortData
import HandS.ExcOwn
import HandS.ExcIs
import HandS.TryOnly
import HandS.Codes
import HandS.ExcCtx
import HandS.HotCalls
import PyProof.LongRange
import PyProof.ListRange
import PySem.Challenge.RW_backlinks_k09_chains_counted_and_numbere
set_option Elab.async false
set_option linter.all false
set_option maxRecDepth 100000
set_option maxHeartbeats 4000000
set_option autoImplicit false
/-! Z1: a layer over HandS in which addresses do not appear: values are data (PyData) or names of cells; a store of cells; readings over these. -/
namespace Z
open PySem PySem.Spec PyProof.Rows L2

/-! ### data at values -/
def keyD : Key → PyData
  | .inl i => .int i
  | .inr x => .str x
mutual
inductive IsD (K : PySem.W.Frag) (F : Hp) : V → PyData → Prop
  | non : IsD K F .non .none
  | bl (b : Bool) : IsD K F (.bl b) (.bool b)
  | int (i : Int) : IsD K F (.int i) (.int i)
  | str (x : Str) : IsD K F (.str x) (.str x)
  | lst {a : Addr} {xs : List V} {ds : List PyData} : F a = some (.lst xs) → IsDs K F xs ds → IsD K F (.ref a) (.list ds)
  | tup {a : Addr} {xs : List V} {ds : List PyData} : Rd F a (.tup xs) → IsDs K F xs ds → IsD K F (.ref a) (.tuple ds)
  | dct {a : Addr} {kvs : List (Key × V)} {ds : List (PyData × PyData)} : F a = some (.dK kvs) → IsDk K F kvs ds → IsD K F (.ref a) (.dict ds)
inductive IsDs (K : PySem.W.Frag) (F : Hp) : List V → List PyData → Prop
  | nil : IsDs K F [] []
  | cons {v : V} {vs : List V} {d : PyData} {ds : List PyData} : IsD K F v d → IsDs K F vs ds → IsDs K F (v :: vs) (d :: ds)
inductive IsDk (K : PySem.W.Frag) (F : Hp) : List (Key × V) → List (PyData × PyData) → Prop
  | nil : IsDk K F [] []
  | cons {k : Key} {v : V} {vs : List (Key × V)} {d : PyData} {ds : List (PyData × PyData)} : IsD K F v d → IsDk K F vs ds → IsDk K F ((k, v) :: vs) ((keyD k, d) :: ds)
end
theorem rd_mono {H H' : Hp} {a : Addr} {u : HO} (e : Same H H') (h : Rd H a u) : Rd H' a u := by
  rcases h with h | ⟨o, h⟩
  · exact Or.inl (e a _ h)
  · exact Or.inr ⟨o, e a _ h⟩
mutual
theorem IsD.mono {K : PySem.W.Frag} {F F' : Hp} (e : Same F F') : ∀ {v : V} {d : PyData}, IsD K F v d → IsD K F' v d
  | _, _, .non => .non
  | _, _, .bl b => .bl b
  | _, _, .int i => .int i
  | _, _, .str x => .str x
  | _, _, .lst h hs => .lst (e _ _ h) (IsDs.mono e hs)
  | _, _, .tup h hs => .tup (rd_mono e h) (IsDs.mono e hs)
  | _, _, .dct h hs => .dct (e _ _ h) (IsDk.mono e hs)
theorem IsDs.mono {K : PySem.W.Frag} {F F' : Hp} (e : Same F F') : ∀ {v : List V} {d : List PyData}, IsDs K F v d → IsDs K F' v d
  | _, _, .nil => .nil
  | _, _, .cons h hs => .cons (IsD.mono e h) (IsDs.mono e hs)
theorem IsDk.mono {K : PySem.W.Frag} {F F' : Hp} (e : Same F F') : ∀ {v : List (Key × V)} {d : List (PyData × PyData)}, IsDk K F v d → IsDk K F' v d
  | _, _, .nil => .nil
  | _, _, .cons h hs => .cons (IsD.mono e h) (IsDk.mono e hs)
end
section
variable {K : PySem.W.Frag} {F : Hp}
theorem IsDs.length : ∀ {vs : List V} {ds : List PyData}, IsDs K F vs ds → vs.length = ds.length
  | _, _, .nil => rfl
  | _, _, .cons _ h => congrArg (· + 1) (IsDs.length h)
theorem IsDs.get : ∀ {vs : List V} {ds : List PyData} {i : Nat} {d : PyData}, IsDs K F vs ds → ds[i]? = some d → ∃ v, vs[i]? = some v ∧ IsD K F v d
  | _, _, _, _, .nil, e => by simp at e
  | _, _, 0, _, .cons r _, e => by simp at e; subst e; exact ⟨_, rfl, r⟩
  | _, _, i + 1, d, .cons _ t, e => by
    obtain ⟨u, h1, h2⟩ := IsDs.get (i := i) (d := d) t (by simpa using e)
    exact ⟨u, by simpa using h1, h2⟩
theorem IsDs.append : ∀ {xs ys : List V} {us ws : List PyData}, IsDs K F xs us → IsDs K F ys ws → IsDs K F (xs ++ ys) (us ++ ws)
  | _, _, _, _, .nil, s => s
  | _, _, _, _, .cons r t, s => .cons r (IsDs.append t s)
theorem IsDs.take : ∀ {xs : List V} {us : List PyData} (n : Nat), IsDs K F xs us → IsDs K F (xs.take n) (us.take n)
  | _, _, 0, _ => .nil
  | _, _, _ + 1, .nil => .nil
  | _, _, n + 1, .cons r t => .cons r (IsDs.take n t)
theorem IsDs.drop : ∀ {xs : List V} {us : List PyData} (n : Nat), IsDs K F xs us → IsDs K F (xs.drop n) (us.drop n)
  | _, _, 0, r => r
  | _, _, _ + 1, .nil => .nil
  | _, _, n + 1, .cons _ t => IsDs.drop n t
theorem IsDs.set {x : V} {d : PyData} (r : IsD K F x d) : ∀ {xs : List V} {us : List PyData} (i : Nat), IsDs K F xs us → IsDs K F (xs.set i x) (us.set i d)
  | _, _, _, .nil => .nil
  | _, _, 0, .cons _ t => .cons r t
  | _, _, i + 1, .cons q t => .cons q (IsDs.set r i t)
theorem IsDs.dropLast {xs : List V} {us : List PyData} (h : IsDs K F xs us) : IsDs K F xs.dropLast us.dropLast := by
  rw [List.dropLast_eq_take, List.dropLast_eq_take, h.length]
  exact h.take _
theorem IsDs.eraseIdx : ∀ {xs : List V} {us : List PyData} (i : Nat), IsDs K F xs us → IsDs K F (xs.eraseIdx i) (us.eraseIdx i)
  | _, _, _, .nil => .nil
  | _, _, 0, .cons _ t => t
  | _, _, i + 1, .cons r t => .cons r (IsDs.eraseIdx i t)
theorem IsDs.reverse {xs : List V} {us : List PyData} (h : IsDs K F xs us) : IsDs K F xs.reverse us.reverse := by
  induction h using IsDs.rec (motive_1 := fun _ _ _ => True) (motive_3 := fun _ _ _ => True) with
  | nil => exact .nil
  | cons h _ _ ih => rw [List.reverse_cons, List.reverse_cons]; exact IsDs.append ih (.cons h .nil)
  | _ => trivial
theorem IsDs.rep {xs : List V} {us : List PyData} (h : IsDs K F xs us) : ∀ k : Nat, IsDs K F (List.replicate k xs).flatten (List.replicate k us).flatten
  | 0 => .nil
  | k + 1 => by rw [List.replicate_succ, List.replicate_succ, List.flatten_cons, List.flatten_cons]; exact h.append (IsDs.rep h k)
theorem IsDs.ints : ∀ {vs : List V} {ns : List Int}, IsDs K F vs (ns.map .int) → vs = ns.map V.int
  | _, [], h => by cases h; rfl
  | _, n :: ns, h => by
    cases h with
    | cons a b => cases a; rw [IsDs.ints b]; rfl
theorem IsDs.of_ints : ∀ (ns : List Int), IsDs K F (ns.map V.int) (ns.map .int)
  | [] => .nil
  | n :: ns => .cons (.int n) (IsDs.of_ints ns)
theorem IsDs.bools : ∀ {vs : List V} {ns : List Bool}, IsDs K F vs (ns.map .bool) → vs = ns.map V.bl
  | _, [], h => by cases h; rfl
  | _, n :: ns, h => by
    cases h with
    | cons a b => cases a; rw [IsDs.bools b]; rfl
end

/-! ### values, cells, stores -/
/-- other values: an exception of a class of the text (what it bears), a def of the text -/
inductive Oth where
  | exc (nm : Str) (pl : List PyData)
  | fn (nm : Str)
inductive U where
  | v (d : PyData)
  | r (k : Nat)
  | s (ns : List Int)
  | o (t : Oth)
inductive Cell where
  | dead
  | lst (l : List PyData)
  | dct (l : List (PyData × PyData))
abbrev Sto := List Cell
abbrev En := List (Option U)

/-- the object of an exception: its class by its name -/
structure ExcO (K : PySem.W.Frag) (nm : Str) (oe : Obj) : Prop where
  cls : ∃ C, oe.cls = .ref C ∧ PySem.W.nsIn K mainGlobals nm = some (some (.ref C))
  dict : oe.dict = none
  data : ∃ vs : Array Value, oe.data = .fields vs ∧ vs[2]? = some .none
def IsO (K : PySem.W.Frag) (F : Hp) : Oth → V → Prop
  | .exc nm pl, x => pl = [] ∧ ∃ a oe u, x = .ref a ∧ F a = some (.frz oe u) ∧ ExcO K nm oe
  | .fn nm, x => ∃ f, x = .ref f ∧ PySem.W.nsIn K mainGlobals nm = some (some (.ref f))
theorem IsO.ref {K : PySem.W.Frag} {F : Hp} : ∀ {t : Oth} {v : V}, IsO K F t v → ∃ a, v = .ref a
  | .exc _ _, _, ⟨_, a, _, _, e, _⟩ => ⟨a, e⟩
  | .fn _, _, ⟨f, e, _⟩ => ⟨f, e⟩
theorem IsO.mono {K : PySem.W.Frag} {F F' : Hp} (e : Same F F') : ∀ {t : Oth} {v : V}, IsO K F t v → IsO K F' t v
  | .exc _ _, _, ⟨h, a, oe, u, q, f, r⟩ => ⟨h, a, oe, u, q, e _ _ f, r⟩
  | .fn _, _, h => h
def IsU (K : PySem.W.Frag) (F : Hp) (ro : List Addr) : U → V → Prop
  | .v d, x => IsD K F x d
  | .r k, x => ∃ a, ro[k]? = some a ∧ x = .ref a
  | .s ns, x => ∃ a, x = .ref a ∧ SqL K F a (ns.map V.int)
  | .o t, x => IsO K F t x
inductive IsUs (K : PySem.W.Frag) (F : Hp) (ro : List Addr) : List U → List V → Prop
  | nil : IsUs K F ro [] []
  | cons {u : U} {us : List U} {v : V} {vs : List V} : IsU K F ro u v → IsUs K F ro us vs → IsUs K F ro (u :: us) (v :: vs)
def CellOk (K : PySem.W.Frag) (F H : Hp) (a : Addr) : Cell → Prop
  | .dead => H a ≠ none
  | .lst l => F a = none ∧ ∃ xs, H a = some (.lst xs) ∧ IsDs K F xs l
  | .dct l => F a = none ∧ ∃ xs, H a = some (.dK xs) ∧ IsDk K F xs l
structure ConM (K : PySem.W.Frag) (F : Hp) (ro : List Addr) (H : Hp) (m : Sto) : Prop where
  ex : Same F H
  len : ro.length = m.length
  nd : ro.Nodup
  cell : ∀ (k : Nat) (a : Addr) (c : Cell), ro[k]? = some a → m[k]? = some c → CellOk K F H a c
structure ConE (K : PySem.W.Frag) (F : Hp) (ro : List Addr) (σ : L2.St) (E : En) : Prop where
  len : σ.length = E.length
  val : ∀ (i : Nat) (u : U), E[i]? = some (some u) → ∃ v, σ[i]? = some (some v) ∧ IsU K F ro u v
/-- growth: what was known stays; new cells are new; what is neither known nor a cell is left alone -/
structure Gro (F : Hp) (ro : List Addr) (H : Hp) (F' : Hp) (ro' : List Addr) (H' : Hp) : Prop where
  ex : Same F F'
  more : ∃ t, ro' = ro ++ t ∧ ∀ a ∈ t, H a = none
  fr : ∀ a o, H a = some o → a ∉ ro → H' a = some o ∧ F' a = F a
  st : ∀ a, H a ≠ none → H' a ≠ none

section
variable {K : PySem.W.Frag} {F F' F1 F2 H H' H1 H2 : Hp} {ro ro' ro1 ro2 : List Addr} {m m' : Sto} {σ : L2.St} {E : En} {u : U} {v : V}
theorem Gro.refl : Gro F ro H F ro H := ⟨Same.refl F, ⟨[], by simp, fun _ h => nomatch h⟩, fun _ _ e _ => ⟨e, rfl⟩, fun _ h => h⟩
theorem CellOk.some {a : Addr} {c : Cell} (h : CellOk K F H a c) : H a ≠ none := by
  cases c with
  | dead => exact h
  | lst l => obtain ⟨_, xs, e, _⟩ := h; rw [e]; simp
  | dct l => obtain ⟨_, xs, e, _⟩ := h; rw [e]; simp
theorem ConM.inro (c : ConM K F ro H m) {a : Addr} (h : a ∈ ro) : H a ≠ none := by
  obtain ⟨k, hk, e⟩ := List.getElem_of_mem h
  have h1 : ro[k]? = some a := by rw [List.getElem?_eq_getElem hk, e]
  have h2 : k < m.length := by rw [← c.len]; exact hk
  exact (c.cell k a m[k] h1 (List.getElem?_eq_getElem h2)).some
theorem ConM.new (c : ConM K F ro H m) {p : Addr} (h : H p = none) : F p = none ∧ p ∉ ro := by
  refine ⟨?_, fun hp => c.inro hp h⟩
  cases q : F p with
  | none => rfl
  | some o =>
    rw [c.ex p o q] at h
    cases h
theorem Gro.trans (a : Gro F ro H F1 ro1 H1) (b : Gro F1 ro1 H1 F2 ro2 H2) : Gro F ro H F2 ro2 H2 := by
  obtain ⟨t, e, n⟩ := a.more
  obtain ⟨t', e', n'⟩ := b.more
  have fr1 : ∀ x o, H x = some o → x ∉ ro → x ∉ ro1 := fun x o hx hr hm => by
    rw [e] at hm
    rcases List.mem_append.mp hm with q | q
    · exact hr q
    · rw [n x q] at hx; cases hx
  refine ⟨a.ex.trans b.ex, ⟨t ++ t', by rw [e', e, List.append_assoc], fun x hx => ?_⟩, fun x o hx hr => ?_, fun x hx => b.st x (a.st x hx)⟩
  · rcases List.mem_append.mp hx with q | q
    · exact n x q
    · exact Classical.byContradiction fun z => a.st x z (n' x q)
  · obtain ⟨h1, f1⟩ := a.fr x o hx hr
    obtain ⟨h2, f2⟩ := b.fr x o h1 (fr1 x o hx hr)
    exact ⟨h2, f2.trans f1⟩
theorem IsU.mono (g : Gro F ro H F' ro' H') (h : IsU K F ro u v) : IsU K F' ro' u v := by
  cases u with
  | v d => exact IsD.mono g.ex h
  | r k =>
    obtain ⟨a, e, q⟩ := h
    obtain ⟨t, et, _⟩ := g.more
    exact ⟨a, by rw [et, List.getElem?_append_left (List.getElem?_eq_some_iff.mp e).1]; exact e, q⟩
  | s ns =>
    obtain ⟨a, e, q⟩ := h
    exact ⟨a, e, g.ex.seq q⟩
  | o t => exact IsO.mono g.ex h
theorem IsUs.mono (g : Gro F ro H F' ro' H') : ∀ {us : List U} {vs : List V}, IsUs K F ro us vs → IsUs K F' ro' us vs
  | _, _, .nil => .nil
  | _, _, .cons h t => .cons (h.mono g) (IsUs.mono g t)
theorem IsUs.length : ∀ {us : List U} {vs : List V}, IsUs K F ro us vs → us.length = vs.length
  | _, _, .nil => rfl
  | _, _, .cons _ t => congrArg (· + 1) (IsUs.length t)
theorem ConE.mono (g : Gro F ro H F' ro' H') (h : ConE K F ro σ E) : ConE K F' ro' σ E := ⟨h.len, fun i u e => by
  obtain ⟨v, a, b⟩ := h.val i u e
  exact ⟨v, a, b.mono g⟩⟩
theorem ConE.set (h : ConE K F ro σ E) (i : Nat) (q : IsU K F ro u v) : ConE K F ro (σ.set i (some v)) (E.set i (some u)) := by
  refine ⟨by rw [List.length_set, List.length_set]; exact h.len, fun j w e => ?_⟩
  by_cases hj : i = j
  · subst hj
    by_cases hi : i < E.length
    · rw [List.getElem?_set_self hi] at e
      cases e
      exact ⟨v, by rw [List.getElem?_set_self (by rw [h.len]; exact hi)], q⟩
    · rw [List.getElem?_eq_none (by rw [List.length_set]; omega)] at e; cases e
  · rw [List.getElem?_set_ne hj] at e
    obtain ⟨x, a, b⟩ := h.val j w e
    exact ⟨x, by rw [List.getElem?_set_ne hj]; exact a, b⟩
theorem ConE.unset (h : ConE K F ro σ E) (i : Nat) : ConE K F ro (σ.set i none) (E.set i none) := by
  refine ⟨by rw [List.length_set, List.length_set]; exact h.len, fun j w e => ?_⟩
  by_cases hj : i = j
  · subst hj
    by_cases hi : i < E.length
    · rw [List.getElem?_set_self hi] at e
      cases e
    · rw [List.getElem?_eq_none (by rw [List.length_set]; omega)] at e; cases e
  · rw [List.getElem?_set_ne hj] at e
    obtain ⟨x, a, b⟩ := h.val j w e
    exact ⟨x, by rw [List.getElem?_set_ne hj]; exact a, b⟩

/-! ### the store's four moves -/
theorem same_upd {H : Hp} {p : Addr} {o : HO} (h : H p = none) : Same H (upd H p o) := fun b x e => by
  rw [upd_ne (ne_of_none e h)]
  exact e
theorem same_upd2 {F H : Hp} {p : Addr} {o : HO} (h : Same F H) : Same (upd F p o) (upd H p o) := fun b x e => by
  by_cases hb : b = p
  · subst hb; rw [upd_same] at e ⊢; exact e
  · rw [upd_ne hb] at e ⊢; exact h b x e
/-- cells stand when the known part grows by what is no cell, and the heap changes off them -/
theorem CellOk.grow {a : Addr} {c : Cell} (h : CellOk K F H a c) (e : Same F F') (hF : F a = none → F' a = none) (hH : H' a = H a) : CellOk K F' H' a c := by
  cases c with
  | dead => show H' a ≠ none; rw [hH]; exact h
  | lst l =>
    obtain ⟨h1, xs, h2, h3⟩ := h
    exact ⟨hF h1, xs, by rw [hH]; exact h2, IsDs.mono e h3⟩
  | dct l =>
    obtain ⟨h1, xs, h2, h3⟩ := h
    exact ⟨hF h1, xs, by rw [hH]; exact h2, IsDk.mono e h3⟩
/-- a new known object -/
theorem ConM.known (c : ConM K F ro H m) {p : Addr} (hp : H p = none) (o : HO) : ConM K (upd F p o) ro (upd H p o) m ∧ Gro F ro H (upd F p o) ro (upd H p o) := by
  obtain ⟨hF, hr⟩ := c.new hp
  have e := same_upd (o := o) hF
  refine ⟨⟨same_upd2 c.ex, c.len, c.nd, fun k a x h1 h2 => ?_⟩, ⟨e, ⟨[], by simp, fun _ h => nomatch h⟩, fun a x h1 _ => ?_, fun a h1 => ?_⟩⟩
  · have ne : a ≠ p := fun z => hr (z ▸ List.mem_of_getElem? h1)
    exact (c.cell k a x h1 h2).grow e (fun z => by rw [upd_ne ne]; exact z) (upd_ne ne)
  · have ne : a ≠ p := ne_of_none h1 hp
    exact ⟨by rw [upd_ne ne]; exact h1, upd_ne ne⟩
  · by_cases z : a = p
    · rw [z, upd_same]; simp
    · rw [upd_ne z]; exact h1
/-- a new cell -/
theorem ConM.cellNew (c : ConM K F ro H m) {p : Addr} (hp : H p = none) {xs : List V} {l : List PyData} (h : IsDs K F xs l) :
    ConM K F (ro ++ [p]) (upd H p (.lst xs)) (m ++ [.lst l]) ∧ Gro F ro H F (ro ++ [p]) (upd H p (.lst xs)) := by
  obtain ⟨hF, hr⟩ := c.new hp
  refine ⟨⟨fun b o e => ?_, by rw [List.length_append, List.length_append, c.len]; rfl, ?_, fun k a x h1 h2 => ?_⟩, ⟨Same.refl F, ⟨[p], rfl, fun a h => ?_⟩, fun a x h1 _ => ?_, fun a h1 => ?_⟩⟩
  · rw [upd_ne (ne_of_none e hF)]; exact c.ex b o e
  · rw [List.nodup_append]
    refine ⟨c.nd, by simp, fun a ha b hb => ?_⟩
    have eb : b = p := by simpa using hb
    subst eb
    exact fun z => hr (z ▸ ha)
  · by_cases hk : k < ro.length
    · rw [List.getElem?_append_left hk] at h1
      rw [List.getElem?_append_left (by rw [← c.len]; exact hk)] at h2
      have ne : a ≠ p := fun z => hr (z ▸ List.mem_of_getElem? h1)
      exact (c.cell k a x h1 h2).grow (Same.refl F) (fun z => z) (upd_ne ne)
    · have e0 : k = ro.length := by
        have := (List.getElem?_eq_some_iff.mp h1).1
        rw [List.length_append] at this
        simp at this
        omega
      subst e0
      rw [List.getElem?_append_right (Nat.le_refl _)] at h1
      rw [c.len, List.getElem?_append_right (Nat.le_refl _)] at h2
      simp at h1 h2
      subst h1 h2
      exact ⟨hF, xs, upd_same, h⟩
  · have ea : a = p := by simpa using h
    rw [ea]; exact hp
  · have ne : a ≠ p := ne_of_none h1 hp
    exact ⟨by rw [upd_ne ne]; exact h1, rfl⟩
  · by_cases z : a = p
    · rw [z, upd_same]; simp
    · rw [upd_ne z]; exact h1
/-- a new cell -/
theorem ConM.dctNew (c : ConM K F ro H m) {p : Addr} (hp : H p = none) {xs : List (Key × V)} {l : List (PyData × PyData)} (h : IsDk K F xs l) :
    ConM K F (ro ++ [p]) (upd H p (.dK xs)) (m ++ [.dct l]) ∧ Gro F ro H F (ro ++ [p]) (upd H p (.dK xs)) := by
  obtain ⟨hF, hr⟩ := c.new hp
  refine ⟨⟨fun b o e => ?_, by rw [List.length_append, List.length_append, c.len]; rfl, ?_, fun k a x h1 h2 => ?_⟩, ⟨Same.refl F, ⟨[p], rfl, fun a h => ?_⟩, fun a x h1 _ => ?_, fun a h1 => ?_⟩⟩
  · rw [upd_ne (ne_of_none e hF)]; exact c.ex b o e
  · rw [List.nodup_append]
    refine ⟨c.nd, by simp, fun a ha b hb => ?_⟩
    have eb : b = p := by simpa using hb
    subst eb
    exact fun z => hr (z ▸ ha)
  · by_cases hk : k < ro.length
    · rw [List.getElem?_append_left hk] at h1
      rw [List.getElem?_append_left (by rw [← c.len]; exact hk)] at h2
      have ne : a ≠ p := fun z => hr (z ▸ List.mem_of_getElem? h1)
      exact (c.cell k a x h1 h2).grow (Same.refl F) (fun z => z) (upd_ne ne)
    · have e0 : k = ro.length := by
        have := (List.getElem?_eq_some_iff.mp h1).1
        rw [List.length_append] at this
        simp at this
        omega
      subst e0
      rw [List.getElem?_append_right (Nat.le_refl _)] at h1
      rw [c.len, List.getElem?_append_right (Nat.le_refl _)] at h2
      simp at h1 h2
      subst h1 h2
      exact ⟨hF, xs, upd_same, h⟩
  · have ea : a = p := by simpa using h
    rw [ea]; exact hp
  · have ne : a ≠ p := ne_of_none h1 hp
    exact ⟨by rw [upd_ne ne]; exact h1, rfl⟩
  · by_cases z : a = p
    · rw [z, upd_same]; simp
    · rw [upd_ne z]; exact h1
theorem nd_ix {α : Type} {l : List α} (hN : l.Nodup) {i j : Nat} {x : α} (a : l[i]? = some x) (b : l[j]? = some x) : i = j := by
  obtain ⟨h1, e1⟩ := List.getElem?_eq_some_iff.mp a
  obtain ⟨h2, e2⟩ := List.getElem?_eq_some_iff.mp b
  exact (List.getElem_inj hN).mp (e1.trans e2.symm)
/-- a cell's list is changed -/
theorem ConM.cellSet (c : ConM K F ro H m) {k : Nat} {p : Addr} (h1 : ro[k]? = some p) {l l' : List PyData} (h2 : m[k]? = some (.lst l)) {xs : List V} (h : IsDs K F xs l') :
    ConM K F ro (upd H p (.lst xs)) (m.set k (.lst l')) ∧ Gro F ro H F ro (upd H p (.lst xs)) := by
  obtain ⟨hF, xs0, hx, _⟩ : CellOk K F H p (.lst l) := c.cell k p _ h1 h2
  refine ⟨⟨fun b o e => ?_, by rw [List.length_set]; exact c.len, c.nd, fun j a x g1 g2 => ?_⟩, ⟨Same.refl F, ⟨[], by simp, fun _ h => nomatch h⟩, fun a x g1 g2 => ?_, fun a g1 => ?_⟩⟩
  · rw [upd_ne (ne_of_none e hF)]; exact c.ex b o e
  · by_cases hj : k = j
    · subst hj
      rw [h1] at g1; cases g1
      rw [List.getElem?_set_self (List.getElem?_eq_some_iff.mp h2).1] at g2; cases g2
      exact ⟨hF, xs, upd_same, h⟩
    · rw [List.getElem?_set_ne hj] at g2
      have ne : a ≠ p := fun z => hj (nd_ix c.nd h1 (z ▸ g1))
      exact (c.cell j a x g1 g2).grow (Same.refl F) (fun z => z) (upd_ne ne)
  · have ne : a ≠ p := fun z => g2 (z ▸ List.mem_of_getElem? h1)
    exact ⟨by rw [upd_ne ne]; exact g1, rfl⟩
  · by_cases z : a = p
    · rw [z, upd_same]; simp
    · rw [upd_ne z]; exact g1
/-- a cell's list is changed -/
theorem ConM.dctSet (c : ConM K F ro H m) {k : Nat} {p : Addr} (h1 : ro[k]? = some p) {l l' : List (PyData × PyData)} (h2 : m[k]? = some (.dct l)) {xs : List (Key × V)} (h : IsDk K F xs l') :
    ConM K F ro (upd H p (.dK xs)) (m.set k (.dct l')) ∧ Gro F ro H F ro (upd H p (.dK xs)) := by
  obtain ⟨hF, xs0, hx, _⟩ : CellOk K F H p (.dct l) := c.cell k p _ h1 h2
  refine ⟨⟨fun b o e => ?_, by rw [List.length_set]; exact c.len, c.nd, fun j a x g1 g2 => ?_⟩, ⟨Same.refl F, ⟨[], by simp, fun _ h => nomatch h⟩, fun a x g1 g2 => ?_, fun a g1 => ?_⟩⟩
  · rw [upd_ne (ne_of_none e hF)]; exact c.ex b o e
  · by_cases hj : k = j
    · subst hj
      rw [h1] at g1; cases g1
      rw [List.getElem?_set_self (List.getElem?_eq_some_iff.mp h2).1] at g2; cases g2
      exact ⟨hF, xs, upd_same, h⟩
    · rw [List.getElem?_set_ne hj] at g2
      have ne : a ≠ p := fun z => hj (nd_ix c.nd h1 (z ▸ g1))
      exact (c.cell j a x g1 g2).grow (Same.refl F) (fun z => z) (upd_ne ne)
  · have ne : a ≠ p := fun z => g2 (z ▸ List.mem_of_getElem? h1)
    exact ⟨by rw [upd_ne ne]; exact g1, rfl⟩
  · by_cases z : a = p
    · rw [z, upd_same]; simp
    · rw [upd_ne z]; exact g1
/-- a cell becomes known, for good -/
theorem ConM.freeze (c : ConM K F ro H m) {k : Nat} {p : Addr} (h1 : ro[k]? = some p) {l : List PyData} (h2 : m[k]? = some (.lst l)) :
    ∃ F', ConM K F' ro H (m.set k .dead) ∧ Gro F ro H F' ro H ∧ IsD K F' (.ref p) (.list l) := by
  obtain ⟨hF, xs, hx, hd⟩ : CellOk K F H p (.lst l) := c.cell k p _ h1 h2
  have e := same_upd (o := .lst xs) hF
  refine ⟨upd F p (.lst xs), ⟨fun b o q => ?_, by rw [List.length_set]; exact c.len, c.nd, fun j a x g1 g2 => ?_⟩, ⟨e, ⟨[], by simp, fun _ h => nomatch h⟩, fun a x g1 g2 => ?_, fun a g1 => g1⟩, .lst upd_same (IsDs.mono e hd)⟩
  · by_cases hb : b = p
    · subst hb; rw [upd_same] at q; cases q; exact hx
    · rw [upd_ne hb] at q; exact c.ex b o q
  · by_cases hj : k = j
    · subst hj
      rw [h1] at g1; cases g1
      rw [List.getElem?_set_self (List.getElem?_eq_some_iff.mp h2).1] at g2; cases g2
      show H p ≠ none
      rw [hx]; simp
    · rw [List.getElem?_set_ne hj] at g2
      have ne : a ≠ p := fun z => hj (nd_ix c.nd h1 (z ▸ g1))
      exact (c.cell j a x g1 g2).grow e (fun z => by rw [upd_ne ne]; exact z) rfl
  · have ne : a ≠ p := fun z => g2 (z ▸ List.mem_of_getElem? h1)
    exact ⟨g1, upd_ne ne⟩
/-- a cell becomes known, for good -/
theorem ConM.dctFreeze (c : ConM K F ro H m) {k : Nat} {p : Addr} (h1 : ro[k]? = some p) {l : List (PyData × PyData)} (h2 : m[k]? = some (.dct l)) :
    ∃ F', ConM K F' ro H (m.set k .dead) ∧ Gro F ro H F' ro H ∧ IsD K F' (.ref p) (.dict l) := by
  obtain ⟨hF, xs, hx, hd⟩ : CellOk K F H p (.dct l) := c.cell k p _ h1 h2
  have e := same_upd (o := .dK xs) hF
  refine ⟨upd F p (.dK xs), ⟨fun b o q => ?_, by rw [List.length_set]; exact c.len, c.nd, fun j a x g1 g2 => ?_⟩, ⟨e, ⟨[], by simp, fun _ h => nomatch h⟩, fun a x g1 g2 => ?_, fun a g1 => g1⟩, .dct upd_same (IsDk.mono e hd)⟩
  · by_cases hb : b = p
    · subst hb; rw [upd_same] at q; cases q; exact hx
    · rw [upd_ne hb] at q; exact c.ex b o q
  · by_cases hj : k = j
    · subst hj
      rw [h1] at g1; cases g1
      rw [List.getElem?_set_self (List.getElem?_eq_some_iff.mp h2).1] at g2; cases g2
      show H p ≠ none
      rw [hx]; simp
    · rw [List.getElem?_set_ne hj] at g2
      have ne : a ≠ p := fun z => hj (nd_ix c.nd h1 (z ▸ g1))
      exact (c.cell j a x g1 g2).grow e (fun z => by rw [upd_ne ne]; exact z) rfl
  · have ne : a ≠ p := fun z => g2 (z ▸ List.mem_of_getElem? h1)
    exact ⟨g1, upd_ne ne⟩
/-- the cells behind the n-th are forgotten -/
theorem ConM.cut (c : ConM K F (ro ++ ro') H m) : ConM K F ro H (m.take ro.length) := by
  have hl := c.len
  rw [List.length_append] at hl
  refine ⟨c.ex, by rw [List.length_take]; omega, (List.nodup_append.mp c.nd).1, fun k a x h1 h2 => ?_⟩
  have hk := (List.getElem?_eq_some_iff.mp h1).1
  rw [List.getElem?_take_of_lt hk] at h2
  exact c.cell k a x (by rw [List.getElem?_append_left hk]; exact h1) h2
theorem Gro.cut {t : List Addr} (g : Gro F ro H F' (ro ++ t) H') : Gro F ro H F' ro H' := ⟨g.ex, ⟨[], by simp, fun _ h => nomatch h⟩, g.fr, g.st⟩

/-- the list of a value -/
def asL (m : Sto) : U → Option (List PyData)
  | .v (.list l) => some l
  | .r k => match m[k]? with
    | some (.lst l) => some l
    | _ => none
  | _ => none
theorem asL_own (c : ConM K F ro H m) {u : U} {v : V} (h : IsU K F ro u v) {l : List PyData} (e : asL m u = some l) : ∃ a xs, v = .ref a ∧ H a = some (.lst xs) ∧ IsDs K F xs l := by
  cases u with
  | v d =>
    cases d <;> simp [asL] at e
    subst e
    cases h with
    | lst h1 h2 => exact ⟨_, _, rfl, c.ex _ _ h1, h2⟩
  | r k =>
    obtain ⟨a, h1, h2⟩ := h
    simp only [asL] at e
    cases q : m[k]? with
    | none => rw [q] at e; cases e
    | some x =>
      rw [q] at e
      cases x with
      | dead => cases e
      | dct l' => cases e
      | lst l' =>
        cases e
        obtain ⟨_, xs, hx, hd⟩ : CellOk K F H a (.lst l) := c.cell k a _ h1 q
        exact ⟨a, xs, h2, hx, hd⟩
  | s ns => simp [asL] at e
  | o t => simp [asL] at e
theorem asL_sq (c : ConM K F ro H m) {u : U} {v : V} (h : IsU K F ro u v) {l : List PyData} (e : asL m u = some l) : ∃ a xs, v = .ref a ∧ Rd H a (.lst xs) ∧ IsDs K F xs l :=
  let ⟨a, xs, h1, h2, h3⟩ := asL_own c h e
  ⟨a, xs, h1, Or.inl h2, h3⟩
/-- the list of a value, the script too -/
def asQ (m : Sto) : U → Option (List PyData)
  | .s ns => some (ns.map .int)
  | u => asL m u
theorem asQ_sq (c : ConM K F ro H m) {u : U} {v : V} (h : IsU K F ro u v) {l : List PyData} (e : asQ m u = some l) : ∃ a xs, v = .ref a ∧ SqL K H a xs ∧ IsDs K F xs l := by
  unfold asQ at e
  split at e
  · rename_i ns
    cases e
    obtain ⟨a, e, q⟩ := h
    exact ⟨a, _, e, c.ex.seq q, IsDs.of_ints ns⟩
  · obtain ⟨a, xs, h1, h2, h3⟩ := asL_sq c h e
    exact ⟨a, xs, h1, .inl h2, h3⟩
/-- the data of a value -/
def asD (m : Sto) : U → Option PyData
  | .v d => some d
  | .r k => match m[k]? with
    | some (.lst l) => some (.list l)
    | some (.dct l) => some (.dict l)
    | _ => none
  | .s _ => none
  | .o _ => none
theorem asD_is (c : ConM K F ro H m) {u : U} {v : V} (h : IsU K F ro u v) {d : PyData} (e : asD m u = some d) : IsD K H v d := by
  cases u with
  | v d' =>
    cases e
    exact IsD.mono c.ex h
  | r k =>
    obtain ⟨a, h1, h2⟩ := h
    simp only [asD] at e
    cases q : m[k]? with
    | none => rw [q] at e; cases e
    | some x =>
      rw [q] at e
      cases x with
      | dead => cases e
      | lst l' =>
        cases e
        obtain ⟨_, xs, hx, hd⟩ : CellOk K F H a (.lst l') := c.cell k a _ h1 q
        subst h2
        exact .lst hx (IsDs.mono c.ex hd)
      | dct l' =>
        cases e
        obtain ⟨_, xs, hx, hd⟩ : CellOk K F H a (.dct l') := c.cell k a _ h1 q
        subst h2
        exact .dct hx (IsDk.mono c.ex hd)
  | s ns => cases e
  | o t => cases e
end
end Z
/-! Z2: readings without addresses, expressions. -/
namespace Z
open PySem PySem.Spec PyProof.Rows L2

abbrev QA := U → Sto → Prop
abbrev AE := En → Sto → QA → Prop
abbrev AT := En → Sto → (Bool → Sto → Prop) → Prop
abbrev AA := En → Sto → (List U → Sto → Prop) → Prop
structure AEnds where
  nx : En → Sto → Prop
  rt : QA
  bk : En → Sto → Prop := fun _ _ => False
  ct : En → Sto → Prop := fun _ _ => False
abbrev AS := AEnds → En → Sto → Prop

section
variable (K : PySem.W.Frag) (F : Hp) (ro : List Addr) (H : Hp)
def Post (Qa : QA) (Q : VK) : Prop := ∀ (F' : Hp) (ro' : List Addr) (H' : Hp) (u : U) (v : V) (m' : Sto), Gro F ro H F' ro' H' → ConM K F' ro' H' m' → IsU K F' ro' u v → Qa u m' → Q v H'
def PostT (Qa : Bool → Sto → Prop) (Q : Bool → Hp → Prop) : Prop := ∀ (F' : Hp) (ro' : List Addr) (H' : Hp) (b : Bool) (m' : Sto), Gro F ro H F' ro' H' → ConM K F' ro' H' m' → Qa b m' → Q b H'
def PostA (Qa : List U → Sto → Prop) (Q : List V → Hp → Prop) : Prop := ∀ (F' : Hp) (ro' : List Addr) (H' : Hp) (us : List U) (vs : List V) (m' : Sto), Gro F ro H F' ro' H' → ConM K F' ro' H' m' → IsUs K F' ro' us vs → Qa us m' → Q vs H'
def PostS (Qa : En → Sto → Prop) (Q : L2.St → Hp → Prop) : Prop := ∀ (F' : Hp) (ro' : List Addr) (H' : Hp) (σ' : L2.St) (E' : En) (m' : Sto), Gro F ro H F' ro' H' → ConM K F' ro' H' m' → ConE K F' ro' σ' E' → Qa E' m' → Q σ' H'
structure Mat (Da : AEnds) (D : Ends) : Prop where
  nx : PostS K F ro H Da.nx D.nx
  rt : Post K F ro H Da.rt D.rt
  bk : PostS K F ro H Da.bk D.bk
  ct : PostS K F ro H Da.ct D.ct
end
def cE (K : PySem.W.Frag) (f : AE) : TE := fun σ H Q => ∃ F ro E m Qa, ConM K F ro H m ∧ ConE K F ro σ E ∧ f E m Qa ∧ Post K F ro H Qa Q
def cT (K : PySem.W.Frag) (f : AT) : TT := fun σ H Q => ∃ F ro E m Qa, ConM K F ro H m ∧ ConE K F ro σ E ∧ f E m Qa ∧ PostT K F ro H Qa Q
def cA (K : PySem.W.Frag) (f : AA) : TA := fun σ H Q => ∃ F ro E m Qa, ConM K F ro H m ∧ ConE K F ro σ E ∧ f E m Qa ∧ PostA K F ro H Qa Q
def cS (K : PySem.W.Frag) (g : AS) : TS := fun D σ H => ∃ F ro E m Da, ConM K F ro H m ∧ ConE K F ro σ E ∧ g Da E m ∧ Mat K F ro H Da D
abbrev DE (X : Cx) (e : Expr) (f : AE) : Prop := PE X e (cE X.K f)
abbrev DT (X : Cx) (e : Expr) (f : AT) : Prop := PT X e (cT X.K f)
abbrev DW (X : Cx) (e : Expr) (f : AT) : Prop := PW X e (cT X.K f)
abbrev DA (X : Cx) (e : List Expr) (f : AA) : Prop := PA X e (cA X.K f)
abbrev DS (X : Cx) (e : Stmt) (f : AS) : Prop := PS X e (cS X.K f)
abbrev DSs (X : Cx) (e : List Stmt) (f : AS) : Prop := PSs X e (cS X.K f)

section
variable {X : Cx}
theorem pe_imp {e : Expr} {t t' : TE} (h : PE X e t) (i : ∀ σ H Q, t' σ H Q → t σ H Q) : PE X e t' := ⟨fun pins s σ H Q I hw => h.run pins s σ H Q I (i σ H Q hw)⟩
theorem pt_imp {e : Expr} {t t' : TT} (h : PT X e t) (i : ∀ σ H Q, t' σ H Q → t σ H Q) : PT X e t' := ⟨fun pins s σ H Q I hw => h.run pins s σ H Q I (i σ H Q hw)⟩
theorem pw_imp {e : Expr} {t t' : TT} (h : PW X e t) (i : ∀ σ H Q, t' σ H Q → t σ H Q) : PW X e t' := ⟨fun w pins s σ H Q I hw => h.run w pins s σ H Q I (i σ H Q hw)⟩
theorem pa_imp {e : List Expr} {t t' : TA} (h : PA X e t) (i : ∀ σ H Q, t' σ H Q → t σ H Q) : PA X e t' := ⟨fun p pins s σ H Q I hw => h.run p pins s σ H Q I (i σ H Q hw)⟩
theorem ps_imp {e : Stmt} {t t' : TS} (h : PS X e t) (i : ∀ D σ H, t' D σ H → t D σ H) : PS X e t' := ⟨fun pins s σ H D I hw => h.run pins s σ H D I (i D σ H hw)⟩
theorem pss_imp {e : List Stmt} {t t' : TS} (h : PSs X e t) (i : ∀ D σ H, t' D σ H → t D σ H) : PSs X e t' := ⟨fun pins s σ H D I hw => h.run pins s σ H D I (i D σ H hw)⟩
end
section
variable {K : PySem.W.Frag} {F F1 H H1 : Hp} {ro ro1 : List Addr}
theorem Post.at {Qa : QA} {Q : VK} (p : Post K F ro H Qa Q) (g : Gro F ro H F1 ro1 H1) : Post K F1 ro1 H1 Qa Q := fun F' ro' H' u v m' g' => p F' ro' H' u v m' (g.trans g')
theorem PostT.at {Qa : Bool → Sto → Prop} {Q : Bool → Hp → Prop} (p : PostT K F ro H Qa Q) (g : Gro F ro H F1 ro1 H1) : PostT K F1 ro1 H1 Qa Q := fun F' ro' H' b m' g' => p F' ro' H' b m' (g.trans g')
theorem PostA.at {Qa : List U → Sto → Prop} {Q : List V → Hp → Prop} (p : PostA K F ro H Qa Q) (g : Gro F ro H F1 ro1 H1) : PostA K F1 ro1 H1 Qa Q := fun F' ro' H' u v m' g' => p F' ro' H' u v m' (g.trans g')
theorem PostS.at {Qa : En → Sto → Prop} {Q : L2.St → Hp → Prop} (p : PostS K F ro H Qa Q) (g : Gro F ro H F1 ro1 H1) : PostS K F1 ro1 H1 Qa Q := fun F' ro' H' σ' E' m' g' => p F' ro' H' σ' E' m' (g.trans g')
theorem Mat.at {Da : AEnds} {D : Ends} (p : Mat K F ro H Da D) (g : Gro F ro H F1 ro1 H1) : Mat K F1 ro1 H1 Da D := ⟨p.nx.at g, p.rt.at g, p.bk.at g, p.ct.at g⟩
/-- a value at hand -/
theorem Post.go {Qa : QA} {Q : VK} (p : Post K F ro H Qa Q) {m : Sto} {u : U} {v : V} (c : ConM K F ro H m) (h : IsU K F ro u v) (q : Qa u m) : Q v H := p F ro H u v m Gro.refl c h q
theorem Post.god {Qa : QA} {Q : VK} (p : Post K F ro H Qa Q) {m : Sto} {d : PyData} {v : V} (c : ConM K F ro H m) (h : IsD K F v d) (q : Qa (.v d) m) : Q v H := p F ro H (.v d) v m Gro.refl c h q
end

/-! ### names, constants -/
def dVar (i : Nat) : AE := fun E m Q => match E[i]? with
  | some (some u) => Q u m
  | _ => False
def dC (d : PyData) : AE := fun _ m Q => Q (.v d) m
section
variable {X : Cx}
theorem de_var {e : Expr} {i : Nat} (h : PE X e (tVar i)) : DE X e (dVar i) := pe_imp h fun σ H Q ⟨F, ro, E, m, Qa, c, ce, hf, p⟩ => by
  unfold dVar at hf
  split at hf
  · rename_i u he
    obtain ⟨v, h1, h2⟩ := ce.val i u he
    exact ⟨v, h1, p.go c h2 hf⟩
  · exact hf.elim
theorem dv (i : Nat) {x : Str} {pos : Pos} (hN : X.N[i]? = some x := by rfl) (hv : Vis X.env.scope x := by first | exact Or.inl rfl | exact Or.inr (Or.inl rfl) | exact Or.inr (Or.inr rfl)) (hd : (x == ("__debug__" : Str)) = false := by decide)
    (hcd : (x == ("__classdict__" : Str)) = false := by decide) : DE X (.Name x pos) (dVar i) := de_var (pe_var hN hv hd hcd)
theorem de_c {e : Expr} {v : V} {d : PyData} (h : PE X e (tC v)) (hd : ∀ K F, IsD K F v d) : DE X e (dC d) := pe_imp h fun σ H Q ⟨F, ro, E, m, Qa, c, ce, hf, p⟩ => p.god c (hd X.K F) hf
theorem de_int {i j pos} : DE X (.Constant (.int i) j pos) (dC (.int i)) := de_c pe_int fun _ _ => .int i
theorem de_bl {b j pos} : DE X (.Constant (.bool b) j pos) (dC (.bool b)) := de_c pe_bl fun _ _ => .bl b
theorem de_non {j pos} : DE X (.Constant .none j pos) (dC .none) := de_c pe_non fun _ _ => .non
theorem de_str {x j pos} : DE X (.Constant (.str x) j pos) (dC (.str x)) := de_c pe_str fun _ _ => .str x
theorem de_gint {x : Str} {i : Int} {t : Tok} {pos : Pos} (hm : X.mg x = some (.int i t)) (hg : Gl X x := by rfl) (hd : (x == ("__debug__" : Str)) = false := by decide) : DE X (.Name x pos) (dC (.int i)) := de_c (v := .int i) (pe_glob hg hm ⟨_, rfl⟩ hd) fun _ _ => .int i
theorem de_gstr {x : Str} {i : Str} {t : Tok} {pos : Pos} (hm : X.mg x = some (.str i t)) (hg : Gl X x := by rfl) (hd : (x == ("__debug__" : Str)) = false := by decide) : DE X (.Name x pos) (dC (.str i)) := de_c (v := .str i) (pe_glob hg hm ⟨_, rfl⟩ hd) fun _ _ => .str i
end

/-! ### operators by values -/
abbrev R2A := U → U → Sto → QA → Prop
def Sim2 (K : PySem.W.Frag) (r : R2) (f : R2A) : Prop := ∀ (F : Hp) (ro : List Addr) (H : Hp) (m : Sto) (a b : U) (v w : V) (Q : VK) (Qa : QA), ConM K F ro H m → IsU K F ro a v → IsU K F ro b w → f a b m Qa → Post K F ro H Qa Q → r v w H Q
def Sim1 (K : PySem.W.Frag) (r : V → Hp → VK → Prop) (f : U → Sto → QA → Prop) : Prop := ∀ (F : Hp) (ro : List Addr) (H : Hp) (m : Sto) (a : U) (v : V) (Q : VK) (Qa : QA), ConM K F ro H m → IsU K F ro a v → f a m Qa → Post K F ro H Qa Q → r v H Q
def SimC (K : PySem.W.Frag) (r : List V → Hp → VK → Prop) (f : List U → Sto → QA → Prop) : Prop := ∀ (F : Hp) (ro : List Addr) (H : Hp) (m : Sto) (us : List U) (vs : List V) (Q : VK) (Qa : QA), ConM K F ro H m → IsUs K F ro us vs → f us m Qa → Post K F ro H Qa Q → r vs H Q
def dOp (f : R2A) (ta tb : AE) : AE := fun E m Q => ta E m fun a m1 => tb E m1 fun b m2 => f a b m2 Q
def dUn (f : U → Sto → QA → Prop) (ta : AE) : AE := fun E m Q => ta E m fun a m1 => f a m1 Q
/-- a value that is a bool, as a test -/
def dB (t : AE) : AT := fun E m Q => t E m fun u m1 => match u with
  | .v (.bool b) => Q b m1
  | _ => False
section
variable {X : Cx} {a b c : Expr} {fa fb fc : AE} {pos : Pos}
theorem tOp_sim {K : PySem.W.Frag} {r : R2} {f : R2A} (hs : Sim2 K r f) (σ : L2.St) (H : Hp) (Q : VK) (h : cE K (dOp f fa fb) σ H Q) : tOp r (cE K fa) (cE K fb) σ H Q := by
  obtain ⟨F, ro, E, m, Qa, cm, ce, hf, p⟩ := h
  refine ⟨F, ro, E, m, _, cm, ce, hf, fun F1 ro1 H1 u v m1 g1 c1 i1 h1 => ?_⟩
  refine ⟨F1, ro1, E, m1, _, c1, ce.mono g1, h1, fun F2 ro2 H2 u2 w m2 g2 c2 i2 h2 => ?_⟩
  exact hs F2 ro2 H2 m2 u u2 v w Q Qa c2 (i1.mono g2) i2 h2 (p.at (g1.trans g2))
theorem de_op {op : Operator} {r : R2} {f : R2A} (ho : OpR X (binaryOp op) r) (hs : Sim2 X.K r f) (ha : DE X a fa) (hb : DE X b fb) : DE X (.BinOp a op b pos) (dOp f fa fb) :=
  pe_imp (pe_op ho ha hb) (tOp_sim hs)
theorem de_cmp {op : CmpOp} {r : R2} {f : R2A} (ho : OpR X (compareOp op) r) (hs : Sim2 X.K r f) (ha : DE X a fa) (hb : DE X b fb) (hm : behindInMarks op b = false) : DE X (.Compare a [op] [b] pos) (dOp f fa fb) :=
  pe_imp (pe_cmpR ho ha hb hm) (tOp_sim hs)
theorem de_un {op : UnaryOp} {r : V → Hp → VK → Prop} {f : U → Sto → QA → Prop} (ho : UnR X (unaryOp op) r) (hs : Sim1 X.K r f) (ha : DE X a fa) : DE X (.UnaryOp op a pos) (dUn f fa) :=
  pe_imp (pe_un ho ha) fun σ H Q ⟨F, ro, E, m, Qa, cm, ce, hf, p⟩ =>
    ⟨F, ro, E, m, _, cm, ce, hf, fun F1 ro1 H1 u v m1 g1 c1 i1 h1 => hs F1 ro1 H1 m1 u v Q Qa c1 i1 h1 (p.at g1)⟩
theorem dB_sim {K : PySem.W.Frag} {f : AE} (σ : L2.St) (H : Hp) (Q : Bool → Hp → Prop) (h : cT K (dB f) σ H Q) : cE K f σ H fun x H' => ∃ k, x = .bl k ∧ Q k H' := by
  obtain ⟨F, ro, E, m, Qa, cm, ce, hf, p⟩ := h
  refine ⟨F, ro, E, m, _, cm, ce, hf, fun F1 ro1 H1 u v m1 g1 c1 i1 h1 => ?_⟩
  revert h1
  split
  · rename_i b
    intro h1
    cases i1
    exact ⟨b, rfl, p F1 ro1 H1 b m1 g1 c1 h1⟩
  · exact fun h1 => h1.elim
/-- an expression that gives a bool, as a test: not for comparisons, and, or, not -/
theorem dt_val {e : Expr} {f : AE} (h : DE X e f) (he : ∀ whole, isTrue e X.env whole = (do let v ← whole; standAt e.pos; holding [v] (truthy v)) := by intro _; rfl) : DT X e (dB f) :=
  pt_imp (pt_val h he) fun σ H Q h => dB_sim σ H Q h
theorem dt_cmp {op : CmpOp} {r : R2} {f : R2A} (ho : OpR X (compareOp op) r) (hs : Sim2 X.K r f) (ha : DE X a fa) (hb : DE X b fb) (hm : behindInMarks op b = false) : DT X (.Compare a [op] [b] pos) (dB (dOp f fa fb)) :=
  pt_imp (pt_cmpR ho ha hb hm) fun σ H Q h => by
    obtain ⟨F, ro, E, m, Qa, cm, ce, hf, p⟩ := h
    refine tOp_sim (fa := fa) (fb := fb) (f := f) hs σ H (fun x H' => ∃ k, x = .bl k ∧ Q k H') ⟨F, ro, E, m, _, cm, ce, hf, fun F1 ro1 H1 u v m1 g1 c1 i1 h1 => ?_⟩
    revert h1
    split
    · rename_i b
      intro h1
      cases i1
      exact ⟨b, rfl, p F1 ro1 H1 b m1 g1 c1 h1⟩
    · exact fun h1 => h1.elim
/-- a < b < c -/
def dChain (f g : R2A) (ta tb tc : AE) : AE := fun E m Q => ta E m fun x m1 => tb E m1 fun y m2 => f x y m2 fun z m3 => match z with
  | .v (.bool k) => if k = true then tc E m3 fun w m4 => g y w m4 Q else Q (.v (.bool false)) m3
  | _ => False
theorem dChain_sim {K : PySem.W.Frag} {r r' : R2} {f g : R2A} (hs : Sim2 K r f) (hs' : Sim2 K r' g) (σ : L2.St) (H : Hp) (Q : VK) (h : cE K (dChain f g fa fb fc) σ H Q) : tChain r r' (cE K fa) (cE K fb) (cE K fc) σ H Q := by
  obtain ⟨F, ro, E, m, Qa, cm, ce, hf, p⟩ := h
  refine ⟨F, ro, E, m, _, cm, ce, hf, fun F1 ro1 H1 u v m1 g1 c1 i1 h1 => ?_⟩
  refine ⟨F1, ro1, E, m1, _, c1, ce.mono g1, h1, fun F2 ro2 H2 u2 w m2 g2 c2 i2 h2 => ?_⟩
  refine hs F2 ro2 H2 m2 u u2 v w _ _ c2 (i1.mono g2) i2 h2 fun F3 ro3 H3 u3 z m3 g3 c3 i3 h3 => ?_
  revert h3
  split
  · rename_i k
    intro h3
    cases i3
    refine ⟨k, rfl, ?_⟩
    cases k with
    | true =>
      rw [if_pos rfl] at h3 ⊢
      refine ⟨F3, ro3, E, m3, _, c3, ce.mono (g1.trans (g2.trans g3)), h3, fun F4 ro4 H4 u4 y m4 g4 c4 i4 h4 => ?_⟩
      exact hs' F4 ro4 H4 m4 u2 u4 w y Q Qa c4 (i2.mono (g3.trans g4)) i4 h4 (p.at (g1.trans (g2.trans (g3.trans g4))))
    | false =>
      rw [if_neg Bool.false_ne_true] at h3 ⊢
      exact (p.at (g1.trans (g2.trans g3))).god c3 (IsD.bl false) h3
  · exact fun h3 => h3.elim
theorem de_chain {op op' : CmpOp} {r r' : R2} {f g : R2A} (ho : OpR X (compareOp op) r) (hs : Sim2 X.K r f) (ho' : OpR X (compareOp op') r') (hs' : Sim2 X.K r' g) (ha : DE X a fa) (hb : DE X b fb) (hc : DE X c fc)
    (hm : lastMarks [op, op'] [b, c] = false := by rfl) : DE X (.Compare a [op, op'] [b, c] pos) (dChain f g fa fb fc) :=
  pe_imp (pe_chain ho ho' ha hb hc (hm := hm)) (dChain_sim hs hs')
theorem dt_chain {op op' : CmpOp} {r r' : R2} {f g : R2A} (ho : OpR X (compareOp op) r) (hs : Sim2 X.K r f) (ho' : OpR X (compareOp op') r') (hs' : Sim2 X.K r' g) (ha : DE X a fa) (hb : DE X b fb) (hc : DE X c fc)
    (hm : lastMarks [op, op'] [b, c] = false := by rfl) : DT X (.Compare a [op, op'] [b, c] pos) (dB (dChain f g fa fb fc)) :=
  pt_imp (pt_chain ho ho' ha hb hc (hm := hm)) fun σ H Q h => by
    obtain ⟨F, ro, E, m, Qa, cm, ce, hf, p⟩ := h
    refine dChain_sim (fa := fa) (fb := fb) (fc := fc) hs hs' σ H (fun x H' => ∃ k, x = .bl k ∧ Q k H') ⟨F, ro, E, m, _, cm, ce, hf, fun F1 ro1 H1 u v m1 g1 c1 i1 h1 => ?_⟩
    revert h1
    split
    · rename_i b
      intro h1
      cases i1
      exact ⟨b, rfl, p F1 ro1 H1 b m1 g1 c1 h1⟩
    · exact fun h1 => h1.elim

/-! ### and, or, not, if -/
def dAnd (t u : AT) : AT := fun E m Q => t E m fun c m1 => if c = true then u E m1 Q else Q false m1
def dOr (t u : AT) : AT := fun E m Q => t E m fun c m1 => if c = true then Q true m1 else u E m1 Q
def dNot (t : AT) : AT := fun E m Q => t E m fun c m1 => Q (!c) m1
variable {gA gB : AT} {rest : List Expr}
theorem dw_and1 (ha : DT X a gA) : DW X (.BoolOp .And [a] pos) gA := pw_and1 ha
theorem dw_or1 (ha : DT X a gA) : DW X (.BoolOp .Or [a] pos) gA := pw_or1 ha
theorem dw_and (ha : DT X a gA) (hb : DW X (.BoolOp .And (b :: rest) pos) gB) : DW X (.BoolOp .And (a :: b :: rest) pos) (dAnd gA gB) := pw_imp (pw_and ha hb) fun σ H Q ⟨F, ro, E, m, Qa, cm, ce, hf, p⟩ =>
  ⟨F, ro, E, m, _, cm, ce, hf, fun F1 ro1 H1 c m1 g1 c1 h1 => by
    cases c with
    | true => exact ⟨F1, ro1, E, m1, Qa, c1, ce.mono g1, h1, p.at g1⟩
    | false => exact p F1 ro1 H1 false m1 g1 c1 h1⟩
theorem dw_or (ha : DT X a gA) (hb : DW X (.BoolOp .Or (b :: rest) pos) gB) : DW X (.BoolOp .Or (a :: b :: rest) pos) (dOr gA gB) := pw_imp (pw_or ha hb) fun σ H Q ⟨F, ro, E, m, Qa, cm, ce, hf, p⟩ =>
  ⟨F, ro, E, m, _, cm, ce, hf, fun F1 ro1 H1 c m1 g1 c1 h1 => by
    cases c with
    | true => exact p F1 ro1 H1 true m1 g1 c1 h1
    | false => exact ⟨F1, ro1, E, m1, Qa, c1, ce.mono g1, h1, p.at g1⟩⟩
theorem dt_not (ha : DT X a gA) : DT X (.UnaryOp .Not a pos) (dNot gA) := pt_imp (pt_not ha) fun σ H Q ⟨F, ro, E, m, Qa, cm, ce, hf, p⟩ =>
  ⟨F, ro, E, m, _, cm, ce, hf, fun F1 ro1 H1 c m1 g1 c1 h1 => p F1 ro1 H1 (!c) m1 g1 c1 h1⟩
/-- as values (bools) -/
def dAndV (t u : AE) : AE := fun E m Q => t E m fun x m1 => match x with
  | .v (.bool c) => if c = true then u E m1 Q else Q (.v (.bool false)) m1
  | _ => False
def dOrV (t u : AE) : AE := fun E m Q => t E m fun x m1 => match x with
  | .v (.bool c) => if c = true then Q (.v (.bool true)) m1 else u E m1 Q
  | _ => False
def dNotV (t : AE) : AE := fun E m Q => t E m fun x m1 => match x with
  | .v (.bool c) => Q (.v (.bool (!c))) m1
  | _ => False
theorem de_one {op} (h : DE X a fa) : DE X (.BoolOp op [a] pos) fa := pe_one h
theorem de_and (ha : DE X a fa) (hb : DE X (.BoolOp .And (b :: rest) pos) fb) : DE X (.BoolOp .And (a :: b :: rest) pos) (dAndV fa fb) := pe_imp (pe_and ha hb) fun σ H Q ⟨F, ro, E, m, Qa, cm, ce, hf, p⟩ =>
  ⟨F, ro, E, m, _, cm, ce, hf, fun F1 ro1 H1 u v m1 g1 c1 i1 h1 => by
    revert h1
    dsimp only
    split
    · rename_i c
      intro h1
      cases i1
      refine ⟨c, rfl, ?_⟩
      cases c with
      | true => exact ⟨F1, ro1, E, m1, Qa, c1, ce.mono g1, h1, p.at g1⟩
      | false => exact (p.at g1).god c1 (IsD.bl false) h1
    · exact fun h1 => h1.elim⟩
theorem de_or (ha : DE X a fa) (hb : DE X (.BoolOp .Or (b :: rest) pos) fb) : DE X (.BoolOp .Or (a :: b :: rest) pos) (dOrV fa fb) := pe_imp (pe_or ha hb) fun σ H Q ⟨F, ro, E, m, Qa, cm, ce, hf, p⟩ =>
  ⟨F, ro, E, m, _, cm, ce, hf, fun F1 ro1 H1 u v m1 g1 c1 i1 h1 => by
    revert h1
    dsimp only
    split
    · rename_i c
      intro h1
      cases i1
      refine ⟨c, rfl, ?_⟩
      cases c with
      | true => exact (p.at g1).god c1 (IsD.bl true) h1
      | false => exact ⟨F1, ro1, E, m1, Qa, c1, ce.mono g1, h1, p.at g1⟩
    · exact fun h1 => h1.elim⟩
theorem de_not (ha : DE X a fa) : DE X (.UnaryOp .Not a pos) (dNotV fa) := pe_imp (pe_not ha) fun σ H Q ⟨F, ro, E, m, Qa, cm, ce, hf, p⟩ =>
  ⟨F, ro, E, m, _, cm, ce, hf, fun F1 ro1 H1 u v m1 g1 c1 i1 h1 => by
    revert h1
    dsimp only
    split
    · rename_i c
      intro h1
      cases i1
      exact ⟨c, rfl, (p.at g1).god c1 (IsD.bl (!c)) h1⟩
    · exact fun h1 => h1.elim⟩
def dIf (t : AT) (u w : AE) : AE := fun E m Q => t E m fun c m1 => if c = true then u E m1 Q else w E m1 Q
theorem de_if (hc : DT X c gA) (ha : DE X a fa) (hb : DE X b fb) : DE X (.IfExp c a b pos) (dIf gA fa fb) := pe_imp (pe_ifExp hc ha hb) fun σ H Q ⟨F, ro, E, m, Qa, cm, ce, hf, p⟩ =>
  ⟨F, ro, E, m, _, cm, ce, hf, fun F1 ro1 H1 c m1 g1 c1 h1 => by
    cases c with
    | true => exact ⟨F1, ro1, E, m1, Qa, c1, ce.mono g1, h1, p.at g1⟩
    | false => exact ⟨F1, ro1, E, m1, Qa, c1, ce.mono g1, h1, p.at g1⟩⟩
end

/-! ### arguments, displays -/
def dNil : AA := fun _ m Q => Q [] m
def dCons (t : AE) (u : AA) : AA := fun E m Q => t E m fun x m1 => u E m1 fun xs m2 => Q (x :: xs) m2
/-- all data -/
def allD (m : Sto) : List U → Option (List PyData)
  | [] => some []
  | .v d :: us => (allD m us).map (d :: ·)
  | _ :: _ => none
/-- a new known list, a new cell, a tuple -/
def dLst (t : AA) : AE := fun E m Q => t E m fun us m1 => match allD m1 us with
  | some l => l.length ≤ sizeLine ∧ Q (.v (.list l)) m1
  | none => False
def dLstM (t : AA) : AE := fun E m Q => t E m fun us m1 => match allD m1 us with
  | some l => l.length ≤ sizeLine ∧ Q (.r m1.length) (m1 ++ [.lst l])
  | none => False
def dTup (t : AA) : AE := fun E m Q => t E m fun us m1 => match allD m1 us with
  | some l => l.length ≤ sizeLine ∧ Q (.v (.tuple l)) m1
  | none => False
section
variable {K : PySem.W.Frag} {F F1 H H1 : Hp} {ro ro1 : List Addr} {m : Sto}
theorem allD_is : ∀ {us : List U} {vs : List V} {l : List PyData}, IsUs K F ro us vs → allD m us = some l → IsDs K F vs l
  | [], _, l, h, e => by cases h; cases e; exact .nil
  | .v d :: us, _, l, h, e => by
    cases h with
    | cons a b =>
      simp only [allD, Option.map_eq_some_iff] at e
      obtain ⟨l', e1, e2⟩ := e
      subst e2
      exact .cons a (allD_is b e1)
  | .r k :: us, _, l, h, e => by simp [allD] at e
  | .s k :: us, _, l, h, e => by simp [allD] at e
variable {Qa : QA} {Q : VK}
/-- a new list, known from now on -/
theorem Post.newL (p : Post K F ro H Qa Q) (c : ConM K F ro H m) {xs : List V} {l : List PyData} (h : IsDs K F xs l) (q : Qa (.v (.list l)) m) : ∀ b, H b = none → Q (.ref b) (upd H b (.lst xs)) := fun b hb => by
  obtain ⟨c1, g1⟩ := c.known hb (.lst xs)
  exact (p.at g1).god c1 (IsD.lst upd_same (IsDs.mono g1.ex h)) q
theorem Post.newT (p : Post K F ro H Qa Q) (c : ConM K F ro H m) {xs : List V} {l : List PyData} (h : IsDs K F xs l) (q : Qa (.v (.tuple l)) m) : ∀ b, H b = none → Q (.ref b) (upd H b (.tup xs)) := fun b hb => by
  obtain ⟨c1, g1⟩ := c.known hb (.tup xs)
  exact (p.at g1).god c1 (IsD.tup (Or.inl upd_same) (IsDs.mono g1.ex h)) q
/-- a new cell -/
theorem Post.newC (p : Post K F ro H Qa Q) (c : ConM K F ro H m) {xs : List V} {l : List PyData} (h : IsDs K F xs l) (q : Qa (.r m.length) (m ++ [.lst l])) : ∀ b, H b = none → Q (.ref b) (upd H b (.lst xs)) := fun b hb => by
  obtain ⟨c1, g1⟩ := c.cellNew hb h
  exact (p.at g1).go (u := .r m.length) c1 (show IsU K F (ro ++ [b]) (.r m.length) (.ref b) from ⟨b, by rw [← c.len, List.getElem?_append_right (Nat.le_refl _)]; simp, rfl⟩) q
end
section
variable {X : Cx} {e : Expr} {es : List Expr} {f : AE} {g : AA} {pos : Pos}
theorem da_nil : DA X [] dNil := pa_imp pa_nil fun σ H Q ⟨F, ro, E, m, Qa, cm, ce, hf, p⟩ => p F ro H [] [] m Gro.refl cm .nil hf
theorem da_cons (ha : DE X e f) (hr : DA X es g) (hs : starEach (e :: es) X.env = (false, eval e X.env) :: starEach es X.env := by rfl) : DA X (e :: es) (dCons f g) := pa_imp (pa_cons ha hr hs) fun σ H Q ⟨F, ro, E, m, Qa, cm, ce, hf, p⟩ =>
  ⟨F, ro, E, m, _, cm, ce, hf, fun F1 ro1 H1 u v m1 g1 c1 i1 h1 => ⟨F1, ro1, E, m1, _, c1, ce.mono g1, h1, fun F2 ro2 H2 us vs m2 g2 c2 i2 h2 => p F2 ro2 H2 (u :: us) (v :: vs) m2 (g1.trans g2) c2 (.cons (i1.mono g2) i2) h2⟩⟩
theorem de_lst (h : DA X es g) : DE X (.List es pos) (dLst g) := pe_imp (pe_lst h) fun σ H Q ⟨F, ro, E, m, Qa, cm, ce, hf, p⟩ =>
  ⟨F, ro, E, m, _, cm, ce, hf, fun F1 ro1 H1 us vs m1 g1 c1 i1 h1 => by
    revert h1
    dsimp only
    split
    · rename_i l el
      intro h1
      have hd := allD_is i1 el
      exact ⟨by rw [hd.length]; exact h1.1, (p.at g1).newL c1 hd h1.2⟩
    · exact fun h1 => h1.elim⟩
theorem de_lstM (h : DA X es g) : DE X (.List es pos) (dLstM g) := pe_imp (pe_lst h) fun σ H Q ⟨F, ro, E, m, Qa, cm, ce, hf, p⟩ =>
  ⟨F, ro, E, m, _, cm, ce, hf, fun F1 ro1 H1 us vs m1 g1 c1 i1 h1 => by
    revert h1
    dsimp only
    split
    · rename_i l el
      intro h1
      have hd := allD_is i1 el
      exact ⟨by rw [hd.length]; exact h1.1, (p.at g1).newC c1 hd h1.2⟩
    · exact fun h1 => h1.elim⟩
theorem de_tup {x1} (h : DA X es g) : DE X (.Tuple es x1 pos) (dTup g) := pe_imp (pe_tup h) fun σ H Q ⟨F, ro, E, m, Qa, cm, ce, hf, p⟩ =>
  ⟨F, ro, E, m, _, cm, ce, hf, fun F1 ro1 H1 us vs m1 g1 c1 i1 h1 => by
    revert h1
    dsimp only
    split
    · rename_i l el
      intro h1
      have hd := allD_is i1 el
      exact ⟨by rw [hd.length]; exact h1.1, (p.at g1).newT c1 hd h1.2⟩
    · exact fun h1 => h1.elim⟩

/-! ### calls of built-ins -/
def dCB (r : List U → Sto → QA → Prop) (t : AA) : AE := fun E m Q => t E m fun us m1 => r us m1 Q
theorem tCB_sim {K : PySem.W.Frag} {r : List V → Hp → VK → Prop} {f : List U → Sto → QA → Prop} (hs : SimC K r f) (σ : L2.St) (H : Hp) (Q : VK) (h : cE K (dCB f g) σ H Q) : tCB r (cA K g) σ H Q := by
  obtain ⟨F, ro, E, m, Qa, cm, ce, hf, p⟩ := h
  exact ⟨F, ro, E, m, _, cm, ce, hf, fun F1 ro1 H1 us vs m1 g1 c1 i1 h1 => hs F1 ro1 H1 m1 us vs Q Qa c1 i1 h1 (p.at g1)⟩
theorem de_callB {x : Str} {p : Pos} {id : String} {r : List V → Hp → VK → Prop} {f : List U → Sto → QA → Prop} (hc : CallR X (.builtin id) r) (hs : SimC X.K r f) (hg : Gl X x) (hm : X.mg x = none) (hv : bootBuiltins x = some (.builtin id)) (ha : DA X (e :: es) g)
    (hn : x ≠ "__name__" := by decide) (hdb : (x == ("__debug__" : Str)) = false := by decide) (he : starEach (e :: es) X.env = (false, eval e X.env) :: starEach es X.env := by rfl) (hpl : (backTo pos (starEach es X.env)).any (·.1) = false := by rfl) :
    DE X (.Call (.Name x p) (e :: es) [] pos) (dCB f g) := pe_imp (pe_callB hc hg hm hv ha hn hdb he hpl) (tCB_sim hs)
theorem de_callTy {x : Str} {p : Pos} {T : String} {r : List V → Hp → VK → Prop} {f : List U → Sto → QA → Prop} (hc : CallR X (.type T) r) (hs : SimC X.K r f) (hg : Gl X x) (hm : X.mg x = none) (hv : bootBuiltins x = some (.type T)) (ha : DA X (e :: es) g)
    (hn : x ≠ "__name__" := by decide) (hdb : (x == ("__debug__" : Str)) = false := by decide) (he : starEach (e :: es) X.env = (false, eval e X.env) :: starEach es X.env := by rfl) (hpl : (backTo pos (starEach es X.env)).any (·.1) = false := by rfl) :
    DE X (.Call (.Name x p) (e :: es) [] pos) (dCB f g) := pe_imp (pe_callTy hc hg hm hv ha hn hdb he hpl) (tCB_sim hs)
end
end Z
/-! Z3: statements, loops, comprehensions, defs. -/
namespace Z
open PySem PySem.Spec PyProof.Rows L2

/-! ### small statements -/
def dNext : AS := fun D E m => D.nx E m
def dSeq (t u : AS) : AS := fun D E m => t { D with nx := u D } E m
def dNever : AS := fun _ _ _ => False
def dExpr (t : AE) : AS := fun D E m => t E m fun _ m1 => D.nx E m1
def dRet (t : AE) : AS := fun D E m => t E m D.rt
/-- a cell is given back as data -/
def dRetF (t : AE) : AS := fun D E m => t E m fun u m1 => match u with
  | .r k => (match m1[k]? with
    | some (.lst l) => D.rt (.v (.list l)) (m1.set k .dead)
    | _ => False)
  | _ => False
def dRetN : AS := fun D _ m => D.rt (.v .none) m
def dBreak : AS := fun D E m => D.bk E m
def dCont : AS := fun D E m => D.ct E m
def dIfS (c : AT) (t u : AS) : AS := fun D E m => c E m fun b m1 => if b = true then t D E m1 else u D E m1
def dAsg (i : Nat) (t : AE) : AS := fun D E m => t E m fun u m1 => D.nx (E.set i (some u)) m1
section
variable {X : Cx} {st : Stmt} {rest : List Stmt} {f g : AS} {e : Expr} {fe : AE} {pos : Pos}
theorem dss_nil : DSs X [] dNext := pss_imp pss_nil fun D σ H ⟨F, ro, E, m, Da, c, ce, hf, p⟩ => p.nx F ro H σ E m Gro.refl c ce hf
theorem cS_seq {K : PySem.W.Frag} (D : Ends) (σ : L2.St) (H : Hp) (h : cS K (dSeq f g) D σ H) : tSeq (cS K f) (cS K g) D σ H := by
  obtain ⟨F, ro, E, m, Da, c, ce, hf, p⟩ := h
  exact ⟨F, ro, E, m, _, c, ce, hf, fun F1 ro1 H1 σ1 E1 m1 g1 c1 ce1 h1 => ⟨F1, ro1, E1, m1, Da, c1, ce1, h1, p.at g1⟩, p.rt, p.bk, p.ct⟩
theorem dss_cons (h1 : DS X st f) (h2 : DSs X rest g) : DSs X (st :: rest) (dSeq f g) := pss_imp (pss_cons h1 h2) cS_seq
theorem dss_one (h1 : DS X st f) : DSs X [st] f := pss_one h1
theorem ds_never : DS X st dNever := ps_imp ps_never fun D σ H ⟨F, ro, E, m, Da, c, ce, hf, p⟩ => hf.elim
theorem ds_pass : DS X (.Pass pos) dNext := ps_imp ps_pass fun D σ H ⟨F, ro, E, m, Da, c, ce, hf, p⟩ => p.nx F ro H σ E m Gro.refl c ce hf
theorem ds_break : DS X (.Break pos) dBreak := ps_imp ps_break fun D σ H ⟨F, ro, E, m, Da, c, ce, hf, p⟩ => p.bk F ro H σ E m Gro.refl c ce hf
theorem ds_continue : DS X (.Continue pos) dCont := ps_imp ps_continue fun D σ H ⟨F, ro, E, m, Da, c, ce, hf, p⟩ => p.ct F ro H σ E m Gro.refl c ce hf
theorem ds_expr (he : DE X e fe) (hs : swapsWith e none pos.line X.env = pure false := by rfl) : DS X (.Expr e pos) (dExpr fe) := ps_imp (ps_expr he hs) fun D σ H ⟨F, ro, E, m, Da, c, ce, hf, p⟩ =>
  ⟨F, ro, E, m, _, c, ce, hf, fun F1 ro1 H1 u v m1 g1 c1 i1 h1 => p.nx F1 ro1 H1 σ E m1 g1 c1 (ce.mono g1) h1⟩
theorem ds_ret (he : DE X e fe) : DS X (.Return (some e) pos) (dRet fe) := ps_imp (ps_ret he) fun D σ H ⟨F, ro, E, m, Da, c, ce, hf, p⟩ => ⟨F, ro, E, m, _, c, ce, hf, p.rt⟩
theorem ds_retF (he : DE X e fe) : DS X (.Return (some e) pos) (dRetF fe) := ps_imp (ps_ret he) fun D σ H ⟨F, ro, E, m, Da, c, ce, hf, p⟩ => by
  refine ⟨F, ro, E, m, _, c, ce, hf, fun F1 ro1 H1 u v m1 g1 c1 i1 h1 => ?_⟩
  revert h1
  split
  · rename_i k
    split
    · rename_i l el
      intro h1
      obtain ⟨a, ha, ev⟩ := i1
      subst ev
      obtain ⟨F2, c2, g2, d2⟩ := c1.freeze ha el
      exact (p.rt.at (g1.trans g2)).god c2 d2 h1
    · exact fun h => h.elim
  · exact fun h => h.elim
/-- a cell's list becomes data, for good -/
def dFrz (t : AE) : AE := fun E m Q => t E m fun u m1 => match u with
  | .r k => (match m1[k]? with
    | some (.lst l) => Q (.v (.list l)) (m1.set k .dead)
    | some (.dct l) => Q (.v (.dict l)) (m1.set k .dead)
    | _ => False)
  | .v d => Q (.v d) m1
  | .s _ => False
  | .o t => Q (.o t) m1
theorem de_frz (he : DE X e fe) : DE X e (dFrz fe) := pe_imp he fun σ H Q ⟨F, ro, E, m, Qa, c, ce, hf, p⟩ => by
  refine ⟨F, ro, E, m, _, c, ce, hf, fun F1 ro1 H1 u v m1 g1 c1 i1 h1 => ?_⟩
  revert h1
  split
  · rename_i k
    split
    · rename_i l el
      intro h1
      obtain ⟨a, ha, ev⟩ := i1
      subst ev
      obtain ⟨F2, c2, g2, d2⟩ := c1.freeze ha el
      exact (p.at (g1.trans g2)).god c2 d2 h1
    · rename_i l el
      intro h1
      obtain ⟨a, ha, ev⟩ := i1
      subst ev
      obtain ⟨F2, c2, g2, d2⟩ := c1.dctFreeze ha el
      exact (p.at (g1.trans g2)).god c2 d2 h1
    · exact fun h => h.elim
  · exact fun h1 => (p.at g1).god c1 i1 h1
  · exact fun h => h.elim
  · exact fun h1 => (p.at g1).go (u := .o _) c1 i1 h1
theorem ds_retN : DS X (.Return none pos) dRetN := ps_imp ps_retN fun D σ H ⟨F, ro, E, m, Da, c, ce, hf, p⟩ => p.rt.god c .non hf
theorem ds_if {c : Expr} {a b : List Stmt} {tc : AT} (hc : DT X c tc) (ha : DSs X a f) (hb : DSs X b g) : DS X (.If c a b pos) (dIfS tc f g) := ps_imp (ps_if hc ha hb) fun D σ H ⟨F, ro, E, m, Da, cm, ce, hf, p⟩ =>
  ⟨F, ro, E, m, _, cm, ce, hf, fun F1 ro1 H1 c m1 g1 c1 h1 => by
    cases c with
    | true => exact ⟨F1, ro1, E, m1, Da, c1, ce.mono g1, h1, p.at g1⟩
    | false => exact ⟨F1, ro1, E, m1, Da, c1, ce.mono g1, h1, p.at g1⟩⟩
theorem cS_asg {K : PySem.W.Frag} {i : Nat} (D : Ends) (σ : L2.St) (H : Hp) (h : cS K (dAsg i fe) D σ H) : tAsg (cE K fe) (gName i) D σ H := by
  obtain ⟨F, ro, E, m, Da, c, ce, hf, p⟩ := h
  exact ⟨F, ro, E, m, _, c, ce, hf, fun F1 ro1 H1 u v m1 g1 c1 i1 h1 => p.nx F1 ro1 H1 _ _ m1 g1 c1 ((ce.mono g1).set i i1) h1⟩
/-- x = e -/
theorem ds_set (i : Nat) {x : Str} {pos' : Pos} (hN : X.N.Nodup) (he : DE X e fe) (hi : X.N[i]? = some x := by rfl) (hx : Loc X.env.scope x := by first | exact Or.inl rfl | exact Or.inr rfl) (hs : swapsWith e (some (.Name x pos')) pos.line X.env = pure false := by rfl)
    (hf : X.fn x = true ∨ X.env.scope.names.lookup x = some .local := by first | exact .inl rfl | exact .inr rfl | assumption) : DS X (.Assign [.Name x pos'] e pos) (dAsg i fe) := ps_imp (ps_set hN hi hx he hs hf) cS_asg

/-! ### targets -/
abbrev AG := U → En → Sto → (En → Sto → Prop) → Prop
abbrev AGs := List PyData → En → Sto → (En → Sto → Prop) → Prop
def cG (K : PySem.W.Frag) (g : AG) : TG := fun v σ H Q => ∃ F ro E m u Qa, ConM K F ro H m ∧ ConE K F ro σ E ∧ IsU K F ro u v ∧ g u E m Qa ∧ PostS K F ro H Qa Q
def cGs (K : PySem.W.Frag) (g : AGs) : TGs := fun vs σ H Q => ∃ F ro E m us Qa, ConM K F ro H m ∧ ConE K F ro σ E ∧ IsDs K F vs us ∧ g us E m Qa ∧ PostS K F ro H Qa Q
def gN (i : Nat) : AG := fun u E m Q => Q (E.set i (some u)) m
def gN0 : AGs := fun us E m Q => us = [] ∧ Q E m
def gN1 (t : AG) (r : AGs) : AGs := fun us E m Q => match us with
  | u :: us => t (.v u) E m fun E1 m1 => r us E1 m1 Q
  | [] => False
def gT (n : Nat) (r : AGs) : AG := fun u E m Q => match u with
  | .v (.tuple l) => l.length = n ∧ r l E m Q
  | _ => False
theorem pg_imp {e : Expr} {t t' : TG} (h : PG X e t) (i : ∀ v σ H Q, t' v σ H Q → t v σ H Q) : PG X e t' := ⟨fun pins s σ H v u Q I r hw => h.run pins s σ H v u Q I r (i v σ H Q hw)⟩
theorem pgs_imp {e : List Expr} {t t' : TGs} (h : PGs X e t) (i : ∀ v σ H Q, t' v σ H Q → t v σ H Q) : PGs X e t' := ⟨fun pins s σ H v u Q I r hw => h.run pins s σ H v u Q I r (i v σ H Q hw)⟩
abbrev DG (X : Cx) (e : Expr) (g : AG) : Prop := PG X e (cG X.K g)
abbrev DGs (X : Cx) (e : List Expr) (g : AGs) : Prop := PGs X e (cGs X.K g)
theorem dg_n (i : Nat) {x : Str} (hN : X.N.Nodup) (hi : X.N[i]? = some x := by rfl) (hx : Loc X.env.scope x := by first | exact Or.inl rfl | exact Or.inr rfl) (hf : X.fn x = true ∨ X.env.scope.names.lookup x = some .local := by first | exact .inl rfl | exact .inr rfl | assumption) :
    DG X (.Name x pos) (gN i) := pg_imp (pg_name hN hi hx hf) fun v σ H Q ⟨F, ro, E, m, u, Qa, c, ce, iu, hg, p⟩ => p F ro H _ _ m Gro.refl c (ce.set i iu) hg
theorem dgs_nil : DGs X [] gN0 := pgs_imp pgs_nil fun v σ H Q ⟨F, ro, E, m, us, Qa, c, ce, iu, hg, p⟩ => by
  obtain ⟨e, q⟩ := hg
  subst e
  cases iu
  exact ⟨rfl, p F ro H σ E m Gro.refl c ce q⟩
theorem dgs_cons {es : List Expr} {t : AG} {r : AGs} (h1 : DG X e t) (h2 : DGs X es r) (hs : (assignEach (e :: es) X.env).map (·.2) = assign e X.env :: (assignEach es X.env).map (·.2) := by rfl) : DGs X (e :: es) (gN1 t r) :=
  pgs_imp (pgs_cons h1 h2 hs) fun v σ H Q ⟨F, ro, E, m, us, Qa, c, ce, iu, hg, p⟩ => by
    cases iu with
    | nil => exact hg.elim
    | cons a b =>
      exact ⟨_, _, rfl, F, ro, E, m, .v _, _, c, ce, a, hg, fun F1 ro1 H1 σ1 E1 m1 g1 c1 ce1 h1 => ⟨F1, ro1, E1, m1, _, _, c1, ce1, IsDs.mono g1.ex b, h1, p.at g1⟩⟩
theorem dg_tup {es : List Expr} {k n : Nat} {r : AGs} (hc : X.calm = true) (h : DGs X es r) (hn : (assignEach es X.env).length = n := by rfl) (hst : (assignEach es X.env).findIdx? (·.1) = none := by rfl) : DG X (.Tuple es k pos) (gT n r) :=
  pg_imp (pg_tup hc h hn hst) fun v σ H Q ⟨F, ro, E, m, u, Qa, c, ce, iu, hg, p⟩ => by
    revert hg
    unfold gT
    split
    · rename_i l
      intro hg
      cases iu with
      | tup h1 h2 => exact ⟨_, _, rfl, Or.inl (rd_mono c.ex h1), by rw [h2.length]; exact hg.1, F, ro, E, m, l, Qa, c, ce, h2, hg.2, p⟩
    · exact fun h => h.elim
/-- target = e -/
def dAsgG (g : AG) (t : AE) : AS := fun D E m => t E m fun u m1 => g u E m1 D.nx
theorem ds_asg {tg : Expr} {g : AG} (he : DE X e fe) (hg : DG X tg g) (hs : swapsWithSole [tg] e pos.line X.env = pure false := by rfl) (hw : swappedStores [tg] e X.env = pure none := by rfl)
    (h1 : (assignEach [tg] X.env).map (·.2) = [assign tg X.env] := by rfl) : DS X (.Assign [tg] e pos) (dAsgG g fe) := ps_imp (ps_asg he hg hs hw h1) fun D σ H ⟨F, ro, E, m, Da, c, ce, hf, p⟩ =>
  ⟨F, ro, E, m, _, c, ce, hf, fun F1 ro1 H1 u v m1 g1 c1 i1 h1 => ⟨F1, ro1, E, m1, u, _, c1, ce.mono g1, i1, h1, p.nx.at g1⟩⟩
/-- a, b = x, y; a, b, c = x, y, z -/
def dPar2 (i j : Nat) (t : AA) : AS := fun D E m => t E m fun us m1 => match us with
  | [u, w] => D.nx ((E.set i (some u)).set j (some w)) m1
  | _ => False
def dPar3 (i j k : Nat) (t : AA) : AS := fun D E m => t E m fun us m1 => match us with
  | [u, v, w] => D.nx (((E.set i (some u)).set j (some v)).set k (some w)) m1
  | _ => False
theorem ds_par2 (i j : Nat) {x y : Str} {a b : Expr} {ta : AA} {px py pt : Pos} {kt k2 pt2} (hc : X.calm = true) (hN : X.N.Nodup) (ha : DA X [a, b] ta) (hi : X.N[i]? = some x := by rfl) (hj : X.N[j]? = some y := by rfl) (hij : i ≠ j := by decide)
    (hx : X.env.scope.names.lookup x = some .local := by rfl) (hy : X.env.scope.names.lookup y = some .local := by rfl)
    (hw : swappedStores [.Tuple [.Name x px, .Name y py] kt pt] (.Tuple [a, b] k2 pt2) X.env = pure (some [x, y]) := by rfl)
    (hs : swapsWithSole [.Tuple [.Name x px, .Name y py] kt pt] (.Tuple [a, b] k2 pt2) pos.line X.env = pure false := by rfl) :
    DS X (.Assign [.Tuple [.Name x px, .Name y py] kt pt] (.Tuple [a, b] k2 pt2) pos) (dPar2 i j ta) := ps_imp (ps_par hc hN hi hj hij hx hy ha hw hs) fun D σ H ⟨F, ro, E, m, Da, c, ce, hf, p⟩ =>
  ⟨F, ro, E, m, _, c, ce, hf, fun F1 ro1 H1 us vs m1 g1 c1 i1 h1 => by
    revert h1
    split
    · intro h1
      cases i1 with
      | cons a1 b1 =>
        cases b1 with
        | cons a2 b2 =>
          cases b2
          exact ⟨_, _, rfl, p.nx F1 ro1 H1 _ _ m1 g1 c1 (((ce.mono g1).set i a1).set j a2) h1⟩
    · exact fun h => h.elim⟩
theorem ds_par3 (i j k : Nat) {x y z : Str} {a b c : Expr} {ta : AA} {px py pz pt : Pos} {kt k2 pt2} (hc : X.calm = true) (hN : X.N.Nodup) (ha : DA X [a, b, c] ta) (hi : X.N[i]? = some x := by rfl) (hj : X.N[j]? = some y := by rfl) (hk : X.N[k]? = some z := by rfl)
    (hij : i ≠ j := by decide) (hik : i ≠ k := by decide) (hjk : j ≠ k := by decide)
    (hx : X.env.scope.names.lookup x = some .local := by rfl) (hy : X.env.scope.names.lookup y = some .local := by rfl) (hz : X.env.scope.names.lookup z = some .local := by rfl)
    (hw : swappedStores [.Tuple [.Name x px, .Name y py, .Name z pz] kt pt] (.Tuple [a, b, c] k2 pt2) X.env = pure (some [x, y, z]) := by rfl)
    (hs : swapsWithSole [.Tuple [.Name x px, .Name y py, .Name z pz] kt pt] (.Tuple [a, b, c] k2 pt2) pos.line X.env = pure false := by rfl) :
    DS X (.Assign [.Tuple [.Name x px, .Name y py, .Name z pz] kt pt] (.Tuple [a, b, c] k2 pt2) pos) (dPar3 i j k ta) := ps_imp (ps_par3 hc hN hi hj hk hij hik hjk hx hy hz ha hw hs) fun D σ H ⟨F, ro, E, m, Da, c, ce, hf, p⟩ =>
  ⟨F, ro, E, m, _, c, ce, hf, fun F1 ro1 H1 us vs m1 g1 c1 i1 h1 => by
    revert h1
    split
    · intro h1
      cases i1 with
      | cons a1 b1 =>
        cases b1 with
        | cons a2 b2 =>
          cases b2 with
          | cons a3 b3 =>
            cases b3
            exact ⟨_, _, _, rfl, p.nx F1 ro1 H1 _ _ m1 g1 c1 ((((ce.mono g1).set i a1).set j a2).set k a3) h1⟩
    · exact fun h => h.elim⟩
/-- tuple = tuple, the tuple made (names that are cells): each value is stored, whatever it is -/
def setAll : List Nat → List U → En → En
  | i :: is, u :: us, E => setAll is us (E.set i (some u))
  | _, _, E => E
def dUnp (is : List Nat) (t : AA) : AS := fun D E m => t E m fun us m1 => us.length = is.length ∧ D.nx (setAll is us E) m1
/-- names, by slots -/
inductive GNames (X : Cx) : List Expr → List Nat → TGs → Prop
  | nil : GNames X [] [] gNil
  | cons {e : Expr} {es : List Expr} {i : Nat} {is : List Nat} {r : TGs} : PG X e (gName i) → GNames X es is r → (assignEach (e :: es) X.env).map (·.2) = assign e X.env :: (assignEach es X.env).map (·.2) → GNames X (e :: es) (i :: is) (gCons (gName i) r)
theorem GNames.pgs {es : List Expr} {is : List Nat} {r : TGs} (h : GNames X es is r) : PGs X es r := by
  induction h with
  | nil => exact pgs_nil
  | cons a b c ih => exact pgs_cons a ih c
theorem GNames.sim {K : PySem.W.Frag} {F : Hp} {ro : List Addr} {H : Hp} {Q : L2.St → Hp → Prop} {es : List Expr} {is : List Nat} {r : TGs} (h : GNames X es is r) : ∀ {us : List U} {vs : List V} {σ : L2.St} {E : En}, IsUs K F ro us vs → us.length = is.length → ConE K F ro σ E →
    (∀ σ', ConE K F ro σ' (setAll is us E) → Q σ' H) → r vs σ H Q := by
  induction h with
  | nil =>
    intro us vs σ E iu hl ce q
    cases iu with
    | nil => exact ⟨rfl, q σ ce⟩
    | cons _ _ => simp at hl
  | cons a b c ih =>
    intro us vs σ E iu hl ce q
    cases iu with
    | nil => simp at hl
    | cons a1 b1 => exact ⟨_, _, rfl, ih b1 (by simpa using hl) (ce.set _ a1) q⟩
theorem ds_unp {es ts : List Expr} {k k2 n : Nat} {pt p2 : Pos} {is : List Nat} {r : TGs} {ta : AA} (hc : X.calm = true) (h : GNames X ts is r) (ha : DA X es ta)
    (hn : (assignEach ts X.env).length = n := by rfl) (hst : (assignEach ts X.env).findIdx? (·.1) = none := by rfl) (hl : is.length = n := by rfl) (hz : n ≤ 100 := by decide)
    (hs : swapsWithSole [.Tuple ts k pt] (.Tuple es k2 p2) pos.line X.env = pure false := by rfl) (hw : swappedStores [.Tuple ts k pt] (.Tuple es k2 p2) X.env = pure none := by rfl)
    (h1 : (assignEach [.Tuple ts k pt] X.env).map (·.2) = [assign (.Tuple ts k pt) X.env] := by rfl) : DS X (.Assign [.Tuple ts k pt] (.Tuple es k2 p2) pos) (dUnp is ta) :=
  ps_imp (ps_asg (pe_tup ha) (pg_tup hc h.pgs hn hst) hs hw h1) fun D σ H ⟨F, ro, E, m, Da, c, ce, hf, p⟩ =>
    ⟨F, ro, E, m, _, c, ce, hf, fun F1 ro1 H1 us vs m1 g1 c1 i1 h1 => by
      have e1 := i1.length
      have e2 := h1.1
      refine ⟨by rw [sizeLine_eq]; omega, fun b hb => ?_⟩
      obtain ⟨c2, g2⟩ := c1.known hb (.tup vs)
      exact ⟨b, vs, rfl, Or.inl (Or.inl upd_same), by omega, h.sim (i1.mono g2) h1.1 ((ce.mono g1).mono g2) fun σ' ce' => p.nx _ _ _ σ' _ m1 (g1.trans g2) c2 ce' h1.2⟩⟩
end

/-! ### while -/
def whN (t : AT) (b : AS) (D : AEnds) : Nat → En → Sto → Prop
  | 0, _, _ => False
  | n + 1, E, m => t E m fun c m1 => if c = true then b ⟨whN t b D n, D.rt, D.nx, whN t b D n⟩ E m1 else D.nx E m1
def dWhile (t : AT) (b : AS) : AS := fun D E m => ∃ n, whN t b D n E m
section
variable {X : Cx} {c : Expr} {body : List Stmt} {t : AT} {b : AS} {pos : Pos}
theorem ds_while (hp : PassesOwn (model X.prog X.w) X.A X.env X.xe) (hc : DT X c t) (hb : DSs X body b) : DS X (.While c body [] pos) (dWhile t b) := ps_imp (ps_while hp hc hb) fun D σ H ⟨F, ro, E, m, Da, cm, ce, ⟨n, hn⟩, p⟩ => by
  refine ⟨fun n σ' H' => ∃ F' ro' E' m', Gro F ro H F' ro' H' ∧ ConM X.K F' ro' H' m' ∧ ConE X.K F' ro' σ' E' ∧ whN t b Da n E' m', ⟨n, F, ro, E, m, Gro.refl, cm, ce, hn⟩, ?_⟩
  rintro n σ1 H1 ⟨F1, ro1, E1, m1, g1, c1, ce1, h1⟩
  cases n with
  | zero => exact h1.elim
  | succ n =>
    refine ⟨F1, ro1, E1, m1, _, c1, ce1, h1, fun F2 ro2 H2 d m2 g2 c2 h2 => ?_⟩
    cases d with
    | true =>
      rw [if_pos rfl] at h2 ⊢
      refine ⟨fun σ' H' => ∃ F' ro' E' m', Gro F ro H F' ro' H' ∧ ConM X.K F' ro' H' m' ∧ ConE X.K F' ro' σ' E' ∧ whN t b Da n E' m', fun σ' H' h => ⟨n, Nat.lt_succ_self n, h⟩, F2, ro2, E1, m2, _, c2, ce1.mono g2, h2, ?_⟩
      exact ⟨fun F3 ro3 H3 σ3 E3 m3 g3 c3 ce3 h3 => ⟨F3, ro3, E3, m3, g1.trans (g2.trans g3), c3, ce3, h3⟩, p.rt.at (g1.trans g2), p.nx.at (g1.trans g2), fun F3 ro3 H3 σ3 E3 m3 g3 c3 ce3 h3 => ⟨F3, ro3, E3, m3, g1.trans (g2.trans g3), c3, ce3, h3⟩⟩
    | false =>
      rw [if_neg Bool.false_ne_true] at h2 ⊢
      exact p.nx F2 ro2 H2 σ1 E1 m2 (g1.trans g2) c2 (ce1.mono g2) h2
end

/-! ### what a for walks -/
/-- J yields us, one by one, while gd holds of the store -/
structure ItOk (K : PySem.W.Frag) (F : Hp) (ro : List Addr) (H : Hp) (J : It) (us : List U) (gd : Sto → Prop) : Prop where
  go : ∀ (i : Nat) (F' : Hp) (ro' : List Addr) (H' : Hp) (m' : Sto), Gro F ro H F' ro' H' → ConM K F' ro' H' m' → gd m' → i < us.length → J.go i H'
  stop : ∀ (F' : Hp) (ro' : List Addr) (H' : Hp) (m' : Sto), Gro F ro H F' ro' H' → ConM K F' ro' H' m' → gd m' → J.stop us.length H'
  yld : ∀ (i : Nat) (u : U) (F' : Hp) (ro' : List Addr) (H' : Hp) (m' : Sto) (x : V) (H2 : Hp), Gro F ro H F' ro' H' → ConM K F' ro' H' m' → gd m' → us[i]? = some u → J.yld i H' x H2 → ∃ F2, ConM K F2 ro' H2 m' ∧ Gro F' ro' H' F2 ro' H2 ∧ IsU K F2 ro' u x
abbrev AI := En → Sto → (List U → (Sto → Prop) → Sto → Prop) → Prop
def cI (K : PySem.W.Frag) (s : AI) : TI := fun σ H R => ∃ F ro E m Ra, ConM K F ro H m ∧ ConE K F ro σ E ∧ s E m Ra ∧
  ∀ (F' : Hp) (ro' : List Addr) (H' : Hp) (us : List U) (gd : Sto → Prop) (m' : Sto) (J : It), Gro F ro H F' ro' H' → ConM K F' ro' H' m' → ItOk K F' ro' H' J us gd → Ra us gd m' → R J H'
abbrev DI (X : Cx) (tg iter : Expr) (s : AI) : Prop := PI X tg iter (cI X.K s)
def forU (gd : Sto → Prop) (g : AG) (body : AS) (D : AEnds) : List U → En → Sto → Prop
  | [], E, m => gd m ∧ D.nx E m
  | u :: us, E, m => gd m ∧ g u E m fun E1 m1 => body ⟨fun E2 m2 => forU gd g body D us E2 m2, D.rt, D.nx, fun E2 m2 => forU gd g body D us E2 m2⟩ E1 m1
def dFor (s : AI) (g : AG) (body : AS) : AS := fun D E m => s E m fun us gd m1 => forU gd g body D us E m1
section
variable {X : Cx} {tg iter : Expr} {body : List Stmt} {s : AI} {g : AG} {b : AS} {pos : Pos}
theorem pi_imp {wi wi' : TI} (h : PI X tg iter wi) (i : ∀ σ H R, wi' σ H R → wi σ H R) : PI X tg iter wi' := ⟨fun pins s σ H R I hw => h.run pins s σ H R I (i σ H R hw)⟩
theorem ds_for (hp : PassesOwn (model X.prog X.w) X.A X.env X.xe) (hc : X.calm = true) (hi : DI X tg iter s) (hg : DG X tg g) (hb : DSs X body b) (hs : ∀ x, foldedSetIterable iter X.env x = pure x := by intro _; rfl) : DS X (.For tg iter body [] pos) (dFor s g b) :=
  ps_imp (ps_for hp hc hi hg hb hs) fun D σ H ⟨F, ro, E, m, Da, cm, ce, hf, p⟩ => by
    refine ⟨F, ro, E, m, _, cm, ce, hf, fun F1 ro1 H1 us gd m1 J g1 c1 ok h1 => ?_⟩
    refine ⟨fun i n σ' H' => n = us.length - i ∧ i ≤ us.length ∧ ∃ F' ro' E' m', Gro F1 ro1 H1 F' ro' H' ∧ ConM X.K F' ro' H' m' ∧ ConE X.K F' ro' σ' E' ∧ forU gd g b Da (us.drop i) E' m', ⟨us.length, rfl, Nat.zero_le _, F1, ro1, E, m1, Gro.refl, c1, ce.mono g1, h1⟩, ?_⟩
    rintro i n σ2 H2 ⟨en, hi, F2, ro2, E2, m2, g2, c2, ce2, h2⟩
    by_cases hlt : i < us.length
    · rw [List.drop_eq_getElem_cons hlt] at h2
      obtain ⟨hgd, h2⟩ := h2
      refine .inr ⟨ok.go i F2 ro2 H2 m2 g2 c2 hgd hlt, fun σ' H' => ∃ F' ro' E' m', Gro F1 ro1 H1 F' ro' H' ∧ ConM X.K F' ro' H' m' ∧ ConE X.K F' ro' σ' E' ∧ forU gd g b Da (us.drop (i + 1)) E' m', fun σ' H' h => ⟨us.length - (i + 1), by omega, rfl, hlt, h⟩, fun x H3 hy => ?_⟩
      obtain ⟨F3, c3, g3, iu⟩ := ok.yld i us[i] F2 ro2 H2 m2 x H3 g2 c2 hgd (List.getElem?_eq_getElem hlt) hy
      refine ⟨F3, ro2, E2, m2, _, _, c3, ce2.mono g3, iu, h2, fun F4 ro4 H4 σ4 E4 m4 g4 c4 ce4 h4 => ?_⟩
      have g14 := g2.trans (g3.trans g4)
      refine ⟨F4, ro4, E4, m4, _, c4, ce4, h4, ?_⟩
      exact ⟨fun F5 ro5 H5 σ5 E5 m5 g5 c5 ce5 h5 => ⟨F5, ro5, E5, m5, g14.trans g5, c5, ce5, h5⟩, p.rt.at (g1.trans g14), p.nx.at (g1.trans g14), fun F5 ro5 H5 σ5 E5 m5 g5 c5 ce5 h5 => ⟨F5, ro5, E5, m5, g14.trans g5, c5, ce5, h5⟩⟩
    · have ei : i = us.length := by omega
      subst ei
      rw [List.drop_length] at h2
      exact .inl ⟨ok.stop F2 ro2 H2 m2 g2 c2 h2.1, p.nx F2 ro2 H2 σ2 E2 m2 (g1.trans g2) c2 ce2 h2.2⟩
end

/-! ### comprehensions -/
def wipeE (E : En) : List Nat → En
  | [] => E
  | v :: vs => (wipeE E vs).set v none
def lcU (gd : Sto → Prop) (g : AG) (tt : AT) (te : AE) (E : En) (Q : QA) : List U → List PyData → Sto → Prop
  | [], acc, m => gd m ∧ Q (.v (.list acc)) m
  | u :: us, acc, m => gd m ∧ g u E m fun E1 m1 => tt E1 m1 fun c m2 => if c = true then te E1 m2 fun w m3 => (match w with
      | .v d => acc.length < sizeLine ∧ lcU gd g tt te E Q us (acc ++ [d]) m3
      | _ => False) else lcU gd g tt te E Q us acc m2
def dLc (s : AI) (g : AG) (tt : AT) (te : AE) (vs : List Nat) : AE := fun E m Q => s E m fun us gd m1 => lcU gd g tt te (wipeE E vs) Q us [] m1
/-- the same, the list a cell from then on -/
def lcUM (gd : Sto → Prop) (g : AG) (tt : AT) (te : AE) (E : En) (Q : QA) : List U → List PyData → Sto → Prop := lcU gd g tt te E fun u m => match u with
  | .v (.list l) => Q (.r m.length) (m ++ [.lst l])
  | _ => False
def dLcM (s : AI) (g : AG) (tt : AT) (te : AE) (vs : List Nat) : AE := fun E m Q => s E m fun us gd m1 => lcUM gd g tt te (wipeE E vs) Q us [] m1
def dYes : AT := fun _ m Q => Q true m
section
variable {X : Cx}
abbrev DTs (X : Cx) (e : List Expr) (f : AT) : Prop := PTs X e (cT X.K f)
theorem pts_imp {e : List Expr} {t t' : TT} (h : PTs X e t) (i : ∀ σ H Q, t' σ H Q → t σ H Q) : PTs X e t' := ⟨fun pins s σ H Q I hw => h.run pins s σ H Q I (i σ H Q hw)⟩
theorem dts_nil : DTs X [] dYes := pts_imp pts_nil fun σ H Q ⟨F, ro, E, m, Qa, c, ce, hf, p⟩ => p F ro H true m Gro.refl c hf
theorem dts_one {c : Expr} {f : AT} (h : DT X c f) : DTs X [c] f := pts_one h
theorem conE_wipe {K : PySem.W.Frag} {F : Hp} {ro : List Addr} {σ : L2.St} {E : En} (h : ConE K F ro σ E) : ∀ vs : List Nat, ConE K F ro (wipe σ vs) (wipeE E vs)
  | [] => h
  | v :: vs => (conE_wipe h vs).unset v
/-- the target is a name or a tuple of names: what it does to the slots -/
structure GOwn (K : PySem.W.Frag) (g : TG) (ga : AG) (vs : List Nat) : Prop where
  sim : ∀ (F : Hp) (ro : List Addr) (H : Hp) (σ : L2.St) (E : En) (m : Sto) (u : U) (v : V) (Q : L2.St → Hp → Prop) (Qa : En → Sto → Prop), ConM K F ro H m → ConE K F ro (wipe σ vs) E → IsU K F ro u v → ga u E m Qa →
    (∀ σ2 E2, ConE K F ro σ2 E2 → wipe σ2 vs = wipe σ vs → Qa E2 m → Q σ2 H) → g v (wipe σ vs) H Q
theorem gown_n {K : PySem.W.Frag} (i : Nat) : GOwn K (gName i) (gN i) [i] := ⟨fun F ro H σ E m u v Q Qa c ce iu hg q => q _ _ (ce.set i iu) (by simp [wipe, List.set_set]) hg⟩
theorem wipe2 (σ : L2.St) (i j : Nat) (a b : Option V) (hij : i ≠ j) : wipe (((wipe σ [i, j]).set i a).set j b) [i, j] = wipe σ [i, j] := by
  show ((((((σ.set j none).set i none).set i a).set j b).set j none).set i none) = (σ.set j none).set i none
  apply List.ext_getElem?
  intro n
  by_cases h1 : i = n
  · subst h1
    simp only [List.getElem?_set, List.length_set]
    simp
  · by_cases h2 : j = n
    · subst h2
      simp only [List.getElem?_set, List.length_set]
      simp [h1]
    · simp only [List.getElem?_set, List.length_set]
      simp [h1, h2]
theorem gown_2 {K : PySem.W.Frag} (i j : Nat) (hij : i ≠ j := by decide) : GOwn K (gTup K 2 (gCons (gName i) (gCons (gName j) gNil))) (gT 2 (gN1 (gN i) (gN1 (gN j) gN0))) [i, j] := ⟨fun F ro H σ E m u v Q Qa c ce iu hg q => by
  revert hg
  unfold gT
  split
  · rename_i l
    intro hg
    obtain ⟨hl, hg⟩ := hg
    cases iu with
    | tup h1 h2 =>
      cases h2 with
      | nil => cases hl
      | cons a1 h3 =>
        cases h3 with
        | nil => cases hl
        | cons a2 h4 =>
          cases h4 with
          | cons _ _ => exact absurd hl (by simp)
          | nil => exact ⟨_, _, rfl, Or.inl (rd_mono c.ex h1), rfl, _, _, rfl, _, _, rfl, rfl, q _ _ ((ce.set i (u := .v _) a1).set j (u := .v _) a2) (wipe2 σ i j _ _ hij) hg.2⟩
  · exact fun h => h.elim⟩
theorem ConM.adopt {K : PySem.W.Frag} {F H : Hp} {ro : List Addr} {m : Sto} (c : ConM K F ro H m) {p : Addr} {xs : List V} {l : List PyData} (hx : H p = some (.lst xs)) (hF : F p = none) (hr : p ∉ ro) (h : IsDs K F xs l) : ConM K F (ro ++ [p]) H (m ++ [.lst l]) := by
  refine ⟨c.ex, by rw [List.length_append, List.length_append, c.len]; rfl, ?_, fun k a x h1 h2 => ?_⟩
  · rw [List.nodup_append]
    refine ⟨c.nd, by simp, fun a ha b hb => ?_⟩
    have eb : b = p := by simpa using hb
    subst eb
    exact fun z => hr (z ▸ ha)
  · by_cases hk : k < ro.length
    · rw [List.getElem?_append_left hk] at h1
      rw [List.getElem?_append_left (by rw [← c.len]; exact hk)] at h2
      exact c.cell k a x h1 h2
    · have e0 : k = ro.length := by
        have := (List.getElem?_eq_some_iff.mp h1).1
        rw [List.length_append] at this
        simp at this
        omega
      subst e0
      rw [List.getElem?_append_right (Nat.le_refl _)] at h1
      rw [c.len, List.getElem?_append_right (Nat.le_refl _)] at h2
      simp at h1 h2
      subst h1 h2
      exact ⟨hF, xs, hx, h⟩
theorem ConM.dctAdopt {K : PySem.W.Frag} {F H : Hp} {ro : List Addr} {m : Sto} (c : ConM K F ro H m) {p : Addr} {xs : List (Key × V)} {l : List (PyData × PyData)} (hx : H p = some (.dK xs)) (hF : F p = none) (hr : p ∉ ro) (h : IsDk K F xs l) : ConM K F (ro ++ [p]) H (m ++ [.dct l]) := by
  refine ⟨c.ex, by rw [List.length_append, List.length_append, c.len]; rfl, ?_, fun k a x h1 h2 => ?_⟩
  · rw [List.nodup_append]
    refine ⟨c.nd, by simp, fun a ha b hb => ?_⟩
    have eb : b = p := by simpa using hb
    subst eb
    exact fun z => hr (z ▸ ha)
  · by_cases hk : k < ro.length
    · rw [List.getElem?_append_left hk] at h1
      rw [List.getElem?_append_left (by rw [← c.len]; exact hk)] at h2
      exact c.cell k a x h1 h2
    · have e0 : k = ro.length := by
        have := (List.getElem?_eq_some_iff.mp h1).1
        rw [List.length_append] at this
        simp at this
        omega
      subst e0
      rw [List.getElem?_append_right (Nat.le_refl _)] at h1
      rw [c.len, List.getElem?_append_right (Nat.le_refl _)] at h2
      simp at h1 h2
      subst h1 h2
      exact ⟨hF, xs, hx, h⟩
/-- a known list appended to: what is being made is neither known nor a cell -/
theorem lc_sim {K : PySem.W.Frag} {s : AI} {g : TG} {ga : AG} {tt : AT} {te : AE} {vs : List Nat} (hg : GOwn K g ga vs) (σ : L2.St) (H : Hp) (Q : VK) (h : cE K (dLc s ga tt te vs) σ H Q) : tLc (cI K s) g (cT K tt) (cE K te) vs σ H Q := by
  obtain ⟨F, ro, E, m, Qa, cm, ce, hf, p⟩ := h
  refine ⟨F, ro, E, m, _, cm, ce, hf, fun F1 ro1 H1 us gd m1 J g1 c1 ok h1 => ?_⟩
  intro D hD
  obtain ⟨hFD, hrD⟩ := c1.new hD
  -- the heap with the list at D, D forgotten
  have base : ∀ l : List V, ConM K F1 ro1 (upd H1 D (.lst l)) m1 ∧ Gro F1 ro1 H1 F1 ro1 (upd H1 D (.lst l)) := fun l => by
    have e := same_upd (o := HO.lst l) hD
    refine ⟨⟨c1.ex.trans e, c1.len, c1.nd, fun k a x q1 q2 => ?_⟩, ⟨Same.refl _, ⟨[], by simp, fun _ h => nomatch h⟩, fun a x q1 q2 => ?_, fun a q1 => ?_⟩⟩
    · have ne : a ≠ D := fun z => hrD (z ▸ List.mem_of_getElem? q1)
      exact (c1.cell k a x q1 q2).grow (Same.refl F1) (fun z => z) (upd_ne ne)
    · exact ⟨by rw [upd_ne (ne_of_none q1 hD)]; exact q1, rfl⟩
    · by_cases z : a = D
      · rw [z, upd_same]; simp
      · rw [upd_ne z]; exact q1
  refine ⟨fun i n H' => n = us.length - i ∧ i ≤ us.length ∧ ∃ F' ro' m' acc xs, Gro F1 ro1 H1 F' ro' H' ∧ ConM K F' ro' H' m' ∧ H' D = some (.lst xs) ∧ F' D = none ∧ D ∉ ro' ∧ IsDs K F' xs acc ∧ lcU gd ga tt te (wipeE E vs) Qa (us.drop i) acc m',
    ⟨us.length, rfl, Nat.zero_le _, F1, ro1, m1, [], [], (base []).2, (base []).1, upd_same, hFD, hrD, .nil, h1⟩, ?_⟩
  rintro i n H2 ⟨en, hi, F2, ro2, m2, acc, xs, g2, c2, hx, hF2, hr2, hd, h2⟩
  by_cases hlt : i < us.length
  · rw [List.drop_eq_getElem_cons hlt] at h2
    obtain ⟨hgd, h2⟩ := h2
    refine .inr ⟨ok.go i F2 ro2 H2 m2 g2 c2 hgd hlt, fun H' => ∃ F' ro' m' acc xs, Gro F1 ro1 H1 F' ro' H' ∧ ConM K F' ro' H' m' ∧ H' D = some (.lst xs) ∧ F' D = none ∧ D ∉ ro' ∧ IsDs K F' xs acc ∧ lcU gd ga tt te (wipeE E vs) Qa (us.drop (i + 1)) acc m', fun H' h => ⟨us.length - (i + 1), by omega, rfl, hlt, h⟩, fun x H3 hy => ?_⟩
    obtain ⟨F3, c3, g3, iu⟩ := ok.yld i us[i] F2 ro2 H2 m2 x H3 g2 c2 hgd (List.getElem?_eq_getElem hlt) hy
    -- D through a growth
    have keepD : ∀ {Fa ha : Hp} {ra : List Addr} {Fb hb : Hp} {rb : List Addr}, Gro Fa ra ha Fb rb hb → ha D = some (.lst xs) → Fa D = none → D ∉ ra → hb D = some (.lst xs) ∧ Fb D = none ∧ D ∉ rb := fun {Fa ha ra Fb hb rb} g q1 q2 q3 => by
      obtain ⟨z1, z2⟩ := g.fr D _ q1 q3
      refine ⟨z1, z2.trans q2, fun hm => ?_⟩
      obtain ⟨t, et, nt⟩ := g.more
      rw [et] at hm
      rcases List.mem_append.mp hm with z | z
      · exact q3 z
      · rw [nt D z] at q1; cases q1
    refine hg.sim F3 ro2 H3 σ (wipeE E vs) m2 us[i] x _ _ c3 (conE_wipe (ce.mono (g1.trans (g2.trans g3))) vs) iu h2 fun σ4 E4 ce4 ew h4 => ⟨ew, ?_⟩
    refine ⟨F3, ro2, E4, m2, _, c3, ce4, h4, fun F5 ro5 H5 c m5 g5 c5 h5 => ?_⟩
    cases c with
    | true =>
      rw [if_pos rfl] at h5 ⊢
      refine ⟨F5, ro5, E4, m5, _, c5, ce4.mono g5, h5, fun F6 ro6 H6 u6 y m6 g6 c6 i6 h6 => ?_⟩
      revert h6
      split
      · rename_i d
        intro h6
        have g26 := g3.trans (g5.trans g6)
        obtain ⟨q1, q2, q3⟩ := keepD g26 hx hF2 hr2
        refine ⟨xs, q1, by rw [hd.length]; exact h6.1, F6, ro6, m6, acc ++ [d], xs ++ [y], ?_, ?_, upd_same, q2, q3, (IsDs.mono g26.ex hd).append (.cons i6 .nil), h6.2⟩
        · have g16 := g2.trans g26
          refine ⟨g16.ex, g16.more, fun a x z1 z2 => ?_, fun a z => ?_⟩
          · have ne : a ≠ D := ne_of_none z1 hD
            obtain ⟨w1, w2⟩ := g16.fr a x z1 z2
            exact ⟨by rw [upd_ne ne]; exact w1, w2⟩
          · by_cases ea : a = D
            · rw [ea, upd_same]; simp
            · rw [upd_ne ea]; exact g16.st a z
        · refine ⟨fun b o z => ?_, c6.len, c6.nd, fun k a x z1 z2 => ?_⟩
          · have ne : b ≠ D := fun e => by rw [e, q2] at z; cases z
            rw [upd_ne ne]; exact c6.ex b o z
          · have ne : a ≠ D := fun z => q3 (z ▸ List.mem_of_getElem? z1)
            exact (c6.cell k a x z1 z2).grow (Same.refl F6) (fun z => z) (upd_ne ne)
      · exact fun h => h.elim
    | false =>
      rw [if_neg Bool.false_ne_true] at h5 ⊢
      have g25 := g3.trans g5
      obtain ⟨q1, q2, q3⟩ := keepD g25 hx hF2 hr2
      exact ⟨F5, ro5, m5, acc, xs, g2.trans g25, c5, q1, q2, q3, IsDs.mono g25.ex hd, h5⟩
  · have ei : i = us.length := by omega
    subst ei
    rw [List.drop_length] at h2
    refine .inl ⟨ok.stop F2 ro2 H2 m2 g2 c2 h2.1, ?_⟩
    -- the list becomes known
    have e := same_upd (o := HO.lst xs) hF2
    have cK : ConM K (upd F2 D (.lst xs)) ro2 H2 m2 := ⟨fun b o q => by
      by_cases hb : b = D
      · subst hb; rw [upd_same] at q; cases q; exact hx
      · rw [upd_ne hb] at q; exact c2.ex b o q, c2.len, c2.nd, fun k a x z1 z2 => by
      have ne : a ≠ D := fun z => hr2 (z ▸ List.mem_of_getElem? z1)
      exact (c2.cell k a x z1 z2).grow e (fun z => by rw [upd_ne ne]; exact z) rfl⟩
    have gK : Gro F1 ro1 H1 (upd F2 D (.lst xs)) ro2 H2 := ⟨g2.ex.trans e, g2.more, fun a x z1 z2 => by
      have ne : a ≠ D := ne_of_none z1 hD
      obtain ⟨w1, w2⟩ := g2.fr a x z1 z2
      exact ⟨w1, by rw [upd_ne ne]; exact w2⟩, g2.st⟩
    exact (p.at (g1.trans gK)).god cK (IsD.lst upd_same (IsDs.mono e hd)) h2.2
theorem lc_simM {K : PySem.W.Frag} {s : AI} {g : TG} {ga : AG} {tt : AT} {te : AE} {vs : List Nat} (hg : GOwn K g ga vs) (σ : L2.St) (H : Hp) (Q : VK) (h : cE K (dLcM s ga tt te vs) σ H Q) : tLc (cI K s) g (cT K tt) (cE K te) vs σ H Q := by
  obtain ⟨F, ro, E, m, Qa, cm, ce, hf, p⟩ := h
  refine ⟨F, ro, E, m, _, cm, ce, hf, fun F1 ro1 H1 us gd m1 J g1 c1 ok h1 => ?_⟩
  intro D hD
  obtain ⟨hFD, hrD⟩ := c1.new hD
  -- the heap with the list at D, D forgotten
  have base : ∀ l : List V, ConM K F1 ro1 (upd H1 D (.lst l)) m1 ∧ Gro F1 ro1 H1 F1 ro1 (upd H1 D (.lst l)) := fun l => by
    have e := same_upd (o := HO.lst l) hD
    refine ⟨⟨c1.ex.trans e, c1.len, c1.nd, fun k a x q1 q2 => ?_⟩, ⟨Same.refl _, ⟨[], by simp, fun _ h => nomatch h⟩, fun a x q1 q2 => ?_, fun a q1 => ?_⟩⟩
    · have ne : a ≠ D := fun z => hrD (z ▸ List.mem_of_getElem? q1)
      exact (c1.cell k a x q1 q2).grow (Same.refl F1) (fun z => z) (upd_ne ne)
    · exact ⟨by rw [upd_ne (ne_of_none q1 hD)]; exact q1, rfl⟩
    · by_cases z : a = D
      · rw [z, upd_same]; simp
      · rw [upd_ne z]; exact q1
  refine ⟨fun i n H' => n = us.length - i ∧ i ≤ us.length ∧ ∃ F' ro' m' acc xs, Gro F1 ro1 H1 F' ro' H' ∧ ConM K F' ro' H' m' ∧ H' D = some (.lst xs) ∧ F' D = none ∧ D ∉ ro' ∧ IsDs K F' xs acc ∧ lcUM gd ga tt te (wipeE E vs) Qa (us.drop i) acc m',
    ⟨us.length, rfl, Nat.zero_le _, F1, ro1, m1, [], [], (base []).2, (base []).1, upd_same, hFD, hrD, .nil, h1⟩, ?_⟩
  rintro i n H2 ⟨en, hi, F2, ro2, m2, acc, xs, g2, c2, hx, hF2, hr2, hd, h2⟩
  by_cases hlt : i < us.length
  · rw [List.drop_eq_getElem_cons hlt] at h2
    obtain ⟨hgd, h2⟩ := h2
    refine .inr ⟨ok.go i F2 ro2 H2 m2 g2 c2 hgd hlt, fun H' => ∃ F' ro' m' acc xs, Gro F1 ro1 H1 F' ro' H' ∧ ConM K F' ro' H' m' ∧ H' D = some (.lst xs) ∧ F' D = none ∧ D ∉ ro' ∧ IsDs K F' xs acc ∧ lcUM gd ga tt te (wipeE E vs) Qa (us.drop (i + 1)) acc m', fun H' h => ⟨us.length - (i + 1), by omega, rfl, hlt, h⟩, fun x H3 hy => ?_⟩
    obtain ⟨F3, c3, g3, iu⟩ := ok.yld i us[i] F2 ro2 H2 m2 x H3 g2 c2 hgd (List.getElem?_eq_getElem hlt) hy
    -- D through a growth
    have keepD : ∀ {Fa ha : Hp} {ra : List Addr} {Fb hb : Hp} {rb : List Addr}, Gro Fa ra ha Fb rb hb → ha D = some (.lst xs) → Fa D = none → D ∉ ra → hb D = some (.lst xs) ∧ Fb D = none ∧ D ∉ rb := fun {Fa ha ra Fb hb rb} g q1 q2 q3 => by
      obtain ⟨z1, z2⟩ := g.fr D _ q1 q3
      refine ⟨z1, z2.trans q2, fun hm => ?_⟩
      obtain ⟨t, et, nt⟩ := g.more
      rw [et] at hm
      rcases List.mem_append.mp hm with z | z
      · exact q3 z
      · rw [nt D z] at q1; cases q1
    refine hg.sim F3 ro2 H3 σ (wipeE E vs) m2 us[i] x _ _ c3 (conE_wipe (ce.mono (g1.trans (g2.trans g3))) vs) iu h2 fun σ4 E4 ce4 ew h4 => ⟨ew, ?_⟩
    refine ⟨F3, ro2, E4, m2, _, c3, ce4, h4, fun F5 ro5 H5 c m5 g5 c5 h5 => ?_⟩
    cases c with
    | true =>
      rw [if_pos rfl] at h5 ⊢
      refine ⟨F5, ro5, E4, m5, _, c5, ce4.mono g5, h5, fun F6 ro6 H6 u6 y m6 g6 c6 i6 h6 => ?_⟩
      revert h6
      split
      · rename_i d
        intro h6
        have g26 := g3.trans (g5.trans g6)
        obtain ⟨q1, q2, q3⟩ := keepD g26 hx hF2 hr2
        refine ⟨xs, q1, by rw [hd.length]; exact h6.1, F6, ro6, m6, acc ++ [d], xs ++ [y], ?_, ?_, upd_same, q2, q3, (IsDs.mono g26.ex hd).append (.cons i6 .nil), h6.2⟩
        · have g16 := g2.trans g26
          refine ⟨g16.ex, g16.more, fun a x z1 z2 => ?_, fun a z => ?_⟩
          · have ne : a ≠ D := ne_of_none z1 hD
            obtain ⟨w1, w2⟩ := g16.fr a x z1 z2
            exact ⟨by rw [upd_ne ne]; exact w1, w2⟩
          · by_cases ea : a = D
            · rw [ea, upd_same]; simp
            · rw [upd_ne ea]; exact g16.st a z
        · refine ⟨fun b o z => ?_, c6.len, c6.nd, fun k a x z1 z2 => ?_⟩
          · have ne : b ≠ D := fun e => by rw [e, q2] at z; cases z
            rw [upd_ne ne]; exact c6.ex b o z
          · have ne : a ≠ D := fun z => q3 (z ▸ List.mem_of_getElem? z1)
            exact (c6.cell k a x z1 z2).grow (Same.refl F6) (fun z => z) (upd_ne ne)
      · exact fun h => h.elim
    | false =>
      rw [if_neg Bool.false_ne_true] at h5 ⊢
      have g25 := g3.trans g5
      obtain ⟨q1, q2, q3⟩ := keepD g25 hx hF2 hr2
      exact ⟨F5, ro5, m5, acc, xs, g2.trans g25, c5, q1, q2, q3, IsDs.mono g25.ex hd, h5⟩
  · have ei : i = us.length := by omega
    subst ei
    rw [List.drop_length] at h2
    refine .inl ⟨ok.stop F2 ro2 H2 m2 g2 c2 h2.1, ?_⟩
    have cK := c2.adopt hx hF2 hr2 hd
    have gK : Gro F1 ro1 H1 F2 (ro2 ++ [D]) H2 := ⟨g2.ex, by
      obtain ⟨t, et, nt⟩ := g2.more
      exact ⟨t ++ [D], by rw [et, List.append_assoc], fun a ha => by
        rcases List.mem_append.mp ha with z | z
        · exact nt a z
        · have ea : a = D := by simpa using z
          rw [ea]; exact hD⟩, g2.fr, g2.st⟩
    exact (p.at (g1.trans gK)).go (u := .r m2.length) cK (show IsU K F2 (ro2 ++ [D]) (.r m2.length) (.ref D) from ⟨D, by rw [← c2.len, List.getElem?_append_right (Nat.le_refl _)]; simp, rfl⟩) h2.2

theorem de_lc {elt tg iter : Expr} {ifs : List Expr} {scope : Scope} {own : List (Str × Nat)} {pos : Pos} {s : AI} {g : TG} {ga : AG} {tt : AT} {te : AE} {vs : List Nat} (hc : X.calm = true) (hN : X.N.Nodup) (hi : DI X tg iter s) (ok : BlkOk X.N X.env.scope scope own) (hv : own.map (·.2) = vs) (ho : GOwn X.K g ga vs)
    (hg : ∀ (s : Shared) (H : Hp) (C : Addr) (cl : List (Str × Addr)) (fp : List Addr), PG (X.blk s H scope (compEnvC scope cl C X.env) fp) tg g) (ht : ∀ (s : Shared) (H : Hp) (C : Addr) (cl : List (Str × Addr)) (fp : List Addr), DTs (X.blk s H scope (compEnvC scope cl C X.env) fp) ifs tt)
    (he : ∀ (s : Shared) (H : Hp) (C : Addr) (cl : List (Str × Addr)) (fp : List Addr), DE (X.blk s H scope (compEnvC scope cl C X.env) fp) elt te) (hs : ∀ x, foldedSetIterable iter X.env x = pure x := by intro _; rfl) :
    DE X (.ListComp elt [⟨tg, iter, ifs, 0⟩] scope pos) (dLc s ga tt te vs) := by
  subst hv
  exact pe_imp (pe_lc hc hN hi ok hg ht he hs) (lc_sim ho)
theorem de_lcM {elt tg iter : Expr} {ifs : List Expr} {scope : Scope} {own : List (Str × Nat)} {pos : Pos} {s : AI} {g : TG} {ga : AG} {tt : AT} {te : AE} {vs : List Nat} (hc : X.calm = true) (hN : X.N.Nodup) (hi : DI X tg iter s) (ok : BlkOk X.N X.env.scope scope own) (hv : own.map (·.2) = vs) (ho : GOwn X.K g ga vs)
    (hg : ∀ (s : Shared) (H : Hp) (C : Addr) (cl : List (Str × Addr)) (fp : List Addr), PG (X.blk s H scope (compEnvC scope cl C X.env) fp) tg g) (ht : ∀ (s : Shared) (H : Hp) (C : Addr) (cl : List (Str × Addr)) (fp : List Addr), DTs (X.blk s H scope (compEnvC scope cl C X.env) fp) ifs tt)
    (he : ∀ (s : Shared) (H : Hp) (C : Addr) (cl : List (Str × Addr)) (fp : List Addr), DE (X.blk s H scope (compEnvC scope cl C X.env) fp) elt te) (hs : ∀ x, foldedSetIterable iter X.env x = pure x := by intro _; rfl) :
    DE X (.ListComp elt [⟨tg, iter, ifs, 0⟩] scope pos) (dLcM s ga tt te vs) := by
  subst hv
  exact pe_imp (pe_lc hc hN hi ok hg ht he hs) (lc_simM ho)
/-- y = [..], y a local, on one line -/
theorem ds_setLc (i : Nat) {y : Str} {py : Pos} {elt tg iter : Expr} {ifs : List Expr} {scope : Scope} {own : List (Str × Nat)} {pos spos : Pos} {s : AI} {g : TG} {ga : AG} {tt : AT} {te : AE} {vs : List Nat} (hc : X.calm = true) (hN : X.N.Nodup)
    (hsw : swapsWith (.ListComp elt [⟨tg, iter, ifs, 0⟩] scope pos) (some (.Name y py)) spos.line X.env = pure true) (hi : DI X tg iter s) (ok : BlkOk X.N X.env.scope scope own) (hv : own.map (·.2) = vs) (ho : GOwn X.K g ga vs)
    (hg : ∀ (s : Shared) (H : Hp) (C : Addr) (cl : List (Str × Addr)) (fp : List Addr), PG (X.blk s H scope (compEnvC scope cl C X.env) fp) tg g) (ht : ∀ (s : Shared) (H : Hp) (C : Addr) (cl : List (Str × Addr)) (fp : List Addr), DTs (X.blk s H scope (compEnvC scope cl C X.env) fp) ifs tt)
    (he : ∀ (s : Shared) (H : Hp) (C : Addr) (cl : List (Str × Addr)) (fp : List Addr), DE (X.blk s H scope (compEnvC scope cl C X.env) fp) elt te) (hy : X.N[i]? = some y := by rfl) (hyl : X.env.scope.names.lookup y = some .local := by rfl) (hs : ∀ x, foldedSetIterable iter X.env x = pure x := by intro _; rfl) :
    DS X (.Assign [.Name y py] (.ListComp elt [⟨tg, iter, ifs, 0⟩] scope pos) spos) (dAsg i (dLc s ga tt te vs)) := by
  subst hv
  refine ps_imp (ps_setLc (tt := cT X.K tt) (te := cE X.K te) hc hN hy hyl hsw hi ok hg ht he hs) fun D σ H h => ?_
  obtain ⟨F, ro, E, m, Da, c, ce, hf, p⟩ := h
  exact lc_sim (K := X.K) (s := s) (ga := ga) (tt := tt) (te := te) ho σ H (fun x H1 => gName i x σ H1 D.nx) ⟨F, ro, E, m, _, c, ce, hf, fun F1 ro1 H1 u v m1 g1 c1 i1 h1 => p.nx F1 ro1 H1 _ _ m1 g1 c1 ((ce.mono g1).set i i1) h1⟩
theorem ds_setLcM (i : Nat) {y : Str} {py : Pos} {elt tg iter : Expr} {ifs : List Expr} {scope : Scope} {own : List (Str × Nat)} {pos spos : Pos} {s : AI} {g : TG} {ga : AG} {tt : AT} {te : AE} {vs : List Nat} (hc : X.calm = true) (hN : X.N.Nodup)
    (hsw : swapsWith (.ListComp elt [⟨tg, iter, ifs, 0⟩] scope pos) (some (.Name y py)) spos.line X.env = pure true) (hi : DI X tg iter s) (ok : BlkOk X.N X.env.scope scope own) (hv : own.map (·.2) = vs) (ho : GOwn X.K g ga vs)
    (hg : ∀ (s : Shared) (H : Hp) (C : Addr) (cl : List (Str × Addr)) (fp : List Addr), PG (X.blk s H scope (compEnvC scope cl C X.env) fp) tg g) (ht : ∀ (s : Shared) (H : Hp) (C : Addr) (cl : List (Str × Addr)) (fp : List Addr), DTs (X.blk s H scope (compEnvC scope cl C X.env) fp) ifs tt)
    (he : ∀ (s : Shared) (H : Hp) (C : Addr) (cl : List (Str × Addr)) (fp : List Addr), DE (X.blk s H scope (compEnvC scope cl C X.env) fp) elt te) (hy : X.N[i]? = some y := by rfl) (hyl : X.env.scope.names.lookup y = some .local := by rfl) (hs : ∀ x, foldedSetIterable iter X.env x = pure x := by intro _; rfl) :
    DS X (.Assign [.Name y py] (.ListComp elt [⟨tg, iter, ifs, 0⟩] scope pos) spos) (dAsg i (dLcM s ga tt te vs)) := by
  subst hv
  refine ps_imp (ps_setLc (tt := cT X.K tt) (te := cE X.K te) hc hN hy hyl hsw hi ok hg ht he hs) fun D σ H h => ?_
  obtain ⟨F, ro, E, m, Da, c, ce, hf, p⟩ := h
  exact lc_simM (K := X.K) (s := s) (ga := ga) (tt := tt) (te := te) ho σ H (fun x H1 => gName i x σ H1 D.nx) ⟨F, ro, E, m, _, c, ce, hf, fun F1 ro1 H1 u v m1 g1 c1 i1 h1 => p.nx F1 ro1 H1 _ _ m1 g1 c1 ((ce.mono g1).set i i1) h1⟩
end

/-! ### defs -/
abbrev ASp := List U → Sto → QA → Prop
def cSp (K : PySem.W.Frag) (a : ASp) : Sp := fun vs H Q _ => ∃ F ro m us Qa, ConM K F ro H m ∧ IsUs K F ro us vs ∧ a us m Qa ∧ Post K F ro H Qa Q
/-- as FnOk, where nothing is being shown (repr's guards) -/
structure FnG (P : Program) (w : World) (K : PySem.W.Frag) (mg : Str → Option Value) (base : Heap) (k : Nat) (f : Addr) (fd : FuncData) (ps : List Str) (a : ASp) : Prop where
  len : ∀ us m Q, a us m Q → us.length = ps.length
  run : ∀ (A : Around) (outer : List Env) (s : Shared) (H : Hp) (args : Args) (us : List Value) (vs : List V) (Q : VK) (E : XK), Room k A → A.guards = some [] → Env0 P w K mg base A outer s H → BindsTo s fd args (ps.zip us) → Vals vs us → cSp K a vs H Q E →
    codeAny (model P w) A (.call (.ref f) args) (CR CX0 outer P w H s Q E) s
theorem FnG.mono {P : Program} {w : World} {K : PySem.W.Frag} {mg : Str → Option Value} {base : Heap} {j k : Nat} {f : Addr} {fd : FuncData} {ps : List Str} {a : ASp} (F : FnG P w K mg base j f fd ps a) (h : j ≤ k) : FnG P w K mg base k f fd ps a :=
  ⟨F.len, fun A outer s H args us vs Q E hr => F.run A outer s H args us vs Q E (hr.mono h)⟩
theorem FnG.imp {P : Program} {w : World} {K : PySem.W.Frag} {mg : Str → Option Value} {base : Heap} {k : Nat} {f : Addr} {fd : FuncData} {ps : List Str} {a a' : ASp} (F : FnG P w K mg base k f fd ps a) (h : ∀ us m Q, a' us m Q → a us m Q) : FnG P w K mg base k f fd ps a' :=
  ⟨fun us m Q q => F.len us m Q (h us m Q q), fun A outer s H args us vs Q E hr hg e0 hb r ⟨F', ro, m, us', Qa, c, iu, ha, p⟩ => F.run A outer s H args us vs Q E hr hg e0 hb r ⟨F', ro, m, us', Qa, c, iu, h _ _ _ ha, p⟩⟩
def dCall (a : ASp) (t : AA) : AE := fun E m Q => t E m fun us m1 => a us m1 Q
section
variable {X : Cx} {k : Nat} {f : Addr} {fd : FuncData} {ps : List Str} {a : ASp} {x : Str} {p pos : Pos} {e : Expr} {es : List Expr} {g : AA}
theorem run_fnG {pins : List (Addr × Obj)} {σ : L2.St} {H : Hp} {s : Shared} {Q : VK} {us : List Value} {vs : List V} (F : FnG X.prog X.w X.K X.mg X.base k f fd ps a) (hr : Room k X.A) (hg : X.A.guards = some []) (hb : Binds X.K fd ps [])
    (I : Inv X pins σ H s) (r : Vals vs us) (h : cSp X.K a vs H Q E0) : wpAny (model X.prog X.w) X.A (call (.ref f) us) (EP X pins σ Q) X.xe s := by
  have hl : us.length = ps.length := by
    obtain ⟨F', ro, m, us', Qa, c, iu, ha, p⟩ := h
    rw [← r.length, ← iu.length]
    exact F.len _ _ _ ha
  have hb' := hb s us I.kIn (by simpa using hl)
  rw [List.append_nil] at hb'
  refine wpAny_call (codeAny_mono (F.run X.A X.stack s H ⟨us, []⟩ us vs Q E0 hr hg I.env0 hb' r h) fun r s' hq => ?_)
  cases r with
  | error e => exact hq.elim
  | ok fl =>
    cases fl with
    | ret u => exact I.after hq
    | next => exact False.elim hq
    | brk => exact False.elim hq
    | cont => exact False.elim hq
theorem de_call (F : FnG X.prog X.w X.K X.mg X.base k f fd ps a) (hr : Room k X.A) (hgd : X.A.guards = some []) (hm : X.mg x = some (.ref f)) (hk : PySem.W.keepIn X.K (.ref f) = true) (hb : Binds X.K fd ps []) (ha : DA X (e :: es) g) (hg : Gl X x := by rfl)
    (hdb : (x == ("__debug__" : Str)) = false := by decide) (he : starEach (e :: es) X.env = (false, eval e X.env) :: starEach es X.env := by rfl) (hpl : (backTo pos (starEach es X.env)).any (·.1) = false := by rfl) :
    DE X (.Call (.Name x p) (e :: es) [] pos) (dCall a g) := by
  refine ⟨fun pins s σ H Q I h => ?_⟩
  obtain ⟨F0, ro, E, m, Qa, cm, ce, hf, p⟩ := h
  refine wpAny_Call_Name_kw (ld_glob I hg hm ?_ hdb)
  refine PySem.W.callWith_K (h₀ := X.base) I.ok.mod.kin hk (thn (ha.run pos pins s σ H (fun vs H1 => cSp X.K a vs H1 Q E0) I ⟨F0, ro, E, m, _, cm, ce, hf, fun F1 ro1 H1 us vs m1 g1 c1 i1 h1 => ⟨F1, ro1, m1, us, Qa, c1, i1, h1, p.at g1⟩⟩) fun us s1 ⟨vs, H1, I1, r, q⟩ => ⟨I1.kIn, ?_⟩) he hpl
  exact run_fnG F hr hgd hb I1 r q
theorem de_call0 (F : FnG X.prog X.w X.K X.mg X.base k f fd ps a) (hr : Room k X.A) (hgd : X.A.guards = some []) (hm : X.mg x = some (.ref f)) (hk : PySem.W.keepIn X.K (.ref f) = true) (hb : Binds X.K fd ps []) (hg : Gl X x := by rfl)
    (hdb : (x == ("__debug__" : Str)) = false := by decide) : DE X (.Call (.Name x p) [] [] pos) (dCall a dNil) := by
  refine ⟨fun pins s σ H Q I h => ?_⟩
  obtain ⟨F0, ro, E, m, Qa, cm, ce, hf, p⟩ := h
  refine wpAny_Call_Name_kw (ld_glob I hg hm ?_ hdb)
  exact PySem.W.callWith_K0 I.kIn hk (run_fnG (us := []) F hr hgd hb I .nil ⟨F0, ro, m, [], Qa, cm, .nil, hf, p⟩)
end
/-- a def's slots at its start -/
def startU (n : Nat) (us : List U) : En := us.map some ++ List.replicate (n - us.length) none
/-- what a def hands back: data, a cell of its caller, a new cell; its own cells are forgotten -/
def retD (n : Nat) (Q : QA) : QA := fun u m => match u with
  | .v d => Q (.v d) (m.take n)
  | .r k => if k < n then Q (.r k) (m.take n) else match m[k]? with
    | some (.lst l) => Q (.r n) (m.take n ++ [.lst l])
    | some (.dct l) => Q (.r n) (m.take n ++ [.dct l])
    | _ => False
  | .s _ => False
  | .o t => Q (.o t) (m.take n)
def endsD (n : Nat) (Q : QA) : AEnds := ⟨fun _ m => retD n Q (.v .none) m, retD n Q, fun _ _ => False, fun _ _ => False⟩
section
variable {P : Program} {w : World} {K : PySem.W.Frag} {mg : Str → Option Value} {base : Heap}
theorem FnG.of {x qual : Str} {st : Stmt} {f : Addr} {fd : FuncData} {N ps : List Str} {k : Nat} {a : ASp} {g : AS} (F : Fun K x qual st f fd) (S : FnScope N ps (defScope st)) (len : ∀ us m Q, a us m Q → us.length = ps.length)
    (body : ∀ (cdv : Value) (A : Around) (outer : List Env) (s : Shared) (H : Hp) (E : XK), Room k (A.deeper (envOfC qual (defScope st) s.heap.objs.size f cdv)) → (A.deeper (envOfC qual (defScope st) s.heap.objs.size f cdv)).guards = some [] →
      DSs (cxOf CX0 P w K mg base N qual (defScope st) f cdv A outer s H E).nox (defBody st) g)
    (sem : ∀ us m Q, a us m Q → g (endsD m.length Q) (startU N.length us) m) : FnG P w K mg base (k + 1) f fd ps a := by
  obtain ⟨oc, od, kV, doc, pm, an, cdv, ct, osl, rfl, lk, hcd⟩ := F.ex
  refine ⟨len, fun A outer s H args us vs Q E hr hg e0 hb r hsp => ?_⟩
  obtain ⟨F0, ro, m, us', Qa, cm, iu, ha, p⟩ := hsp
  have hl : vs.length = ps.length := by rw [← iu.length]; exact len _ _ _ ha
  have hpl : ps.length ≤ N.length := by have := congrArg List.length S.pre; rw [List.length_take] at this; omega
  have KX : K.In s.heap := e0.mod.kin.keeps fun b o e => (e0.bs b o e).1
  have lim : s.heap.NoLimit := e0.mod.nolimit.keeps fun b o e => (e0.bs b o e).1
  have hkind : ∀ y ∈ ps.zip us, (defScope st).names.lookup y.1 = some .local ∨ ((defScope st).names.lookup y.1 = some .cell ∧ ((cellsFrom (s.heap.objs.size + 1) (defScope st).names []).lookup y.1).isSome = true) := fun ⟨n, v⟩ hy => by
    rcases S.par n (List.of_mem_zip hy).1 with q | q
    · exact .inl q
    · exact .inr ⟨q, PySem.W.cellsFrom_some _ _ _ (.inl q)⟩
  refine codeAny_call_function hr.depth (KX _ _ lk) rfl S.co S.gen rfl (PySem.W.codeRec_of KX hcd) (hb _ _ _ _ ?_)
  refine wpAny_newFunctionEnv_cells S.kind hkind fun env he s1 x => ?_
  subst he
  refine ⟨lim.keeps x.toInCall.keep, codeAny_func ?_⟩
  have ht := PSs.nox (body cdv A outer s H E (hr.deeper _) (by
    show ((A.deeper _).guards) = some []
    exact hg))
  have I : Inv (cxOf CX0 P w K mg base N qual (defScope st) f cdv A outer s H E) [] (L2.start N vs) H s1 := inv_start S hr.hd e0 hl r x
  have ce : ConE K F0 ro (L2.start N vs) (startU N.length us') := by
    have hlu : us'.length = vs.length := iu.length
    refine ⟨by unfold L2.start startU; simp; omega, fun i u e => ?_⟩
    have hi : i < us'.length := by
      unfold startU at e
      by_cases hi : i < us'.length
      · exact hi
      · rw [List.getElem?_append_right (by simpa using hi), List.getElem?_replicate] at e
        split at e <;> cases e
    unfold startU at e
    rw [List.getElem?_append_left (by simpa using hi), List.getElem?_map] at e
    have get : ∀ {us : List U} {vs : List V} {i : Nat} {u : U}, IsUs K F0 ro us vs → us[i]? = some u → ∃ v, vs[i]? = some v ∧ IsU K F0 ro u v := by
      intro us vs i u h
      induction h generalizing i with
      | nil => intro e; simp at e
      | cons a b ih =>
        intro e
        cases i with
        | zero => simp at e; subst e; exact ⟨_, rfl, a⟩
        | succ i =>
          obtain ⟨v, q1, q2⟩ := ih (i := i) (by simpa using e)
          exact ⟨v, by simpa using q1, q2⟩
    obtain ⟨u', e1, e2⟩ := Option.map_eq_some_iff.mp e
    cases e2
    obtain ⟨v, q1, q2⟩ := get iu e1
    refine ⟨v, ?_, q2⟩
    unfold L2.start
    rw [List.getElem?_append_left (by simp; omega), List.getElem?_map, q1]
    rfl
  have fin : ∀ (F' : Hp) (ro' : List Addr) (H' : Hp) (u : U) (v : V) (m' : Sto), Gro F0 ro H F' ro' H' → ConM K F' ro' H' m' → IsU K F' ro' u v → retD m.length Qa u m' → Q v H' := fun F' ro' H' u v m' g' c' i' q' => by
    obtain ⟨t, et, nt⟩ := g'.more
    subst et
    have cc := c'.cut
    rw [cm.len] at cc
    cases u with
    | v d => exact p F' ro H' (.v d) v _ g'.cut cc i' q'
    | s ns => exact q'.elim
    | o t => exact p F' ro H' (.o t) v _ g'.cut cc i' q'
    | r k =>
      obtain ⟨b, e1, e2⟩ := i'
      by_cases hk : k < m.length
      · have q2 : Qa (.r k) (m'.take m.length) := by
          have q3 := q'
          unfold retD at q3
          simp only [hk, if_true] at q3
          exact q3
        rw [List.getElem?_append_left (by rw [cm.len]; exact hk)] at e1
        exact p F' ro H' (.r k) v _ g'.cut cc ⟨b, e1, e2⟩ q2
      · have q3 := q'
        unfold retD at q3
        simp only [hk, if_false] at q3
        split at q3
        · rename_i l el
          obtain ⟨hF, xs, hx, hd⟩ : CellOk K F' H' b (.lst l) := c'.cell k b _ e1 el
          have hb : b ∈ t := by
            rw [List.getElem?_append_right (by rw [cm.len]; omega)] at e1
            exact List.mem_of_getElem? e1
          have hnr : b ∉ ro := fun z => (List.nodup_append.mp c'.nd).2.2 b z b hb rfl
          have c2 := cc.adopt hx hF hnr hd
          have g2 : Gro F0 ro H F' (ro ++ [b]) H' := ⟨g'.ex, ⟨[b], rfl, fun a ha => by
            have ea : a = b := by simpa using ha
            rw [ea]; exact nt b hb⟩, g'.fr, g'.st⟩
          exact p F' (ro ++ [b]) H' (.r m.length) v _ g2 c2 ⟨b, by rw [← cm.len, List.getElem?_append_right (Nat.le_refl _)]; simp, e2⟩ q3
        · rename_i l el
          obtain ⟨hF, xs, hx, hd⟩ : CellOk K F' H' b (.dct l) := c'.cell k b _ e1 el
          have hb : b ∈ t := by
            rw [List.getElem?_append_right (by rw [cm.len]; omega)] at e1
            exact List.mem_of_getElem? e1
          have hnr : b ∉ ro := fun z => (List.nodup_append.mp c'.nd).2.2 b z b hb rfl
          have c2 := cc.dctAdopt hx hF hnr hd
          have g2 : Gro F0 ro H F' (ro ++ [b]) H' := ⟨g'.ex, ⟨[b], rfl, fun a ha => by
            have ea : a = b := by simpa using ha
            rw [ea]; exact nt b hb⟩, g'.fr, g'.st⟩
          exact p F' (ro ++ [b]) H' (.r m.length) v _ g2 c2 ⟨b, by rw [← cm.len, List.getElem?_append_right (Nat.le_refl _)]; simp, e2⟩ q3
        · exact q3.elim
  refine wpAny_mono (ht.run [] s1 (L2.start N vs) H { nx := fun _ H' => Q .non H', rt := Q } I ⟨F0, ro, startU N.length us', m, endsD m.length Qa, cm, ce, sem us' m Qa ha, ?_⟩) (fun fl s' hs => ?_) fun e s' hs => hs
  · exact ⟨fun F' ro' H' σ' E' m' g' c' _ q' => fin F' ro' H' (.v .none) .non m' g' c' .non q', fun F' ro' H' u v m' g' c' i' q' => fin F' ro' H' u v m' g' c' i' q', fun _ _ _ _ _ _ _ _ _ q => q.elim, fun _ _ _ _ _ _ _ _ _ q => q.elim⟩
  have fin2 : ∀ {σ' : L2.St} {H' : Hp} {v : V} {u : Value}, Inv (cxOf CX0 P w K mg base N qual (defScope st) f cdv A outer s H E) [] σ' H' s' → RelV v u → Q v H' → CE outer P w H s Q u s' :=
    fun {σ' H' v u} J rv q => ⟨v, H', J.os, J.bare, J.base, J.hok, rv, q⟩
  cases fl with
  | ret u =>
    obtain ⟨v, σ', H', J, rv, q⟩ := hs
    exact fin2 J rv q
  | next =>
    obtain ⟨σ', H', J, q⟩ := hs
    exact fin2 (v := V.non) (u := Value.none) J rfl q
  | brk =>
    obtain ⟨_, _, _, q⟩ := hs
    exact False.elim q
  | cont =>
    obtain ⟨_, _, _, q⟩ := hs
    exact False.elim q
end
end Z
/-! Z4: operators, built-ins and methods over data and cells. -/
namespace Z
open PySem PySem.Spec PyProof.Rows L2

/-- a new list: a cell, or data -/
def nw (mu : Bool) (l : List PyData) (m : Sto) (Q : QA) : Prop := match mu with
  | true => Q (.r m.length) (m ++ [.lst l])
  | false => Q (.v (.list l)) m
section
variable {K : PySem.W.Frag} {F F1 H H1 : Hp} {ro ro1 : List Addr} {m : Sto} {Qa : QA} {Q : VK}
theorem Post.nw (p : Post K F ro H Qa Q) (c : ConM K F ro H m) (mu : Bool) {xs : List V} {l : List PyData} (h : IsDs K F xs l) (q : Z.nw mu l m Qa) : ∀ b, H b = none → Q (.ref b) (upd H b (.lst xs)) := by
  cases mu with
  | true => exact p.newC c h q
  | false => exact p.newL c h q
end

/-! ### arithmetic -/
def aAdd (mu : Bool) : R2A := fun a b m Q => match a, b with
  | .v (.int i), .v (.int j) => Q (.v (.int (i + j))) m
  | .v (.str x), .v (.str y) => x.length + y.length ≤ sizeLine ∧ Q (.v (.str (x ++ y))) m
  | a, b => match asL m a, asL m b with
    | some x, some y => x.length + y.length ≤ sizeLine ∧ nw mu (x ++ y) m Q
    | _, _ => False
def rAddL : R2 := fun x y H Q => ∃ l b xs zs, x = .ref l ∧ y = .ref b ∧ Rd H l (.lst xs) ∧ Rd H b (.lst zs) ∧ xs.length + zs.length ≤ sizeLine ∧ ∀ p, H p = none → Q (.ref p) (upd H p (.lst (xs ++ zs)))
def rAddS : R2 := fun x y H Q => ∃ i j, x = .str i ∧ y = .str j ∧ i.length + j.length ≤ sizeLine ∧ Q (.str (i ++ j)) H
def rAddAll : R2 := fun x y H Q => rI0 (fun i j => .int (i + j)) x y H Q ∨ rAddS x y H Q ∨ rAddL x y H Q
section
variable {X : Cx}
theorem op_addL : OpR X (binaryOp .Add) rAddL := by
  intro pins s σ H x y v u Q I rx ry h
  obtain ⟨l, b, xs, zs, rfl, rfl, hH, hB, hz, q⟩ := h
  cases rx
  cases ry
  obtain ⟨z, its, n, r, e⟩ := hH.ok I.hok
  obtain ⟨z2, its2, n2, r2, e2⟩ := hB.ok I.hok
  have hl := r.length
  have hl2 := r2.length
  refine PySem.P.add_list e e2 ?_ (by rw [List.size_toArray, List.size_toArray]; omega)
  have ea : its.toArray ++ its2.toArray = (its ++ its2).toArray := by simp
  rw [ea]
  exact ⟨.ref _, _, I.lnew (t' := s.toks) (r.append r2) (by rw [List.length_append]; omega), rfl, q _ I.fresh⟩
theorem op_addAll : OpR X (binaryOp .Add) rAddAll := op_add.or (op_add_str.or op_addL)
theorem sim_add {K : PySem.W.Frag} (mu : Bool) : Sim2 K rAddAll (aAdd mu) := by
  intro F ro H m a b v w Q Qa c ia ib h p
  unfold aAdd at h
  split at h
  · cases ia; cases ib; exact .inl ⟨_, _, rfl, rfl, p.god c (.int _) h⟩
  · cases ia; cases ib; exact .inr (.inl ⟨_, _, rfl, rfl, h.1, p.god c (.str _) h.2⟩)
  · split at h
    · rename_i x y ex ey
      obtain ⟨a1, xs, rfl, r1, d1⟩ := asL_sq c ia ex
      obtain ⟨a2, ys, rfl, r2, d2⟩ := asL_sq c ib ey
      exact .inr (.inr ⟨_, _, _, _, rfl, rfl, r1, r2, by rw [d1.length, d2.length]; exact h.1, p.nw c mu (d1.append d2) h.2⟩)
    · exact h.elim
def aI (f : Int → Int → Int) : R2A := fun a b m Q => match a, b with
  | .v (.int i), .v (.int j) => Q (.v (.int (f i j))) m
  | _, _ => False
theorem sim_I {K : PySem.W.Frag} (f : Int → Int → Int) : Sim2 K (rI0 fun i j => .int (f i j)) (aI f) := by
  intro F ro H m a b v w Q Qa c ia ib h p
  unfold aI at h
  split at h
  · cases ia; cases ib; exact ⟨_, _, rfl, rfl, p.god c (.int _) h⟩
  · exact h.elim
def aIc (C : Int → Int → Prop) (f : Int → Int → Int) : R2A := fun a b m Q => match a, b with
  | .v (.int i), .v (.int j) => C i j ∧ Q (.v (.int (f i j))) m
  | _, _ => False
theorem sim_Ic {K : PySem.W.Frag} (C : Int → Int → Prop) (f : Int → Int → Int) : Sim2 K (rI C fun i j => .int (f i j)) (aIc C f) := by
  intro F ro H m a b v w Q Qa c ia ib h p
  unfold aIc at h
  split at h
  · cases ia; cases ib; exact ⟨_, _, rfl, rfl, h.1, p.god c (.int _) h.2⟩
  · exact h.elim
def aB (f : Int → Int → Bool) : R2A := fun a b m Q => match a, b with
  | .v (.int i), .v (.int j) => Q (.v (.bool (f i j))) m
  | _, _ => False
theorem sim_B {K : PySem.W.Frag} (f : Int → Int → Bool) : Sim2 K (rI0 fun i j => .bl (f i j)) (aB f) := by
  intro F ro H m a b v w Q Qa c ia ib h p
  unfold aB at h
  split at h
  · cases ia; cases ib; exact ⟨_, _, rfl, rfl, p.god c (.bl _) h⟩
  · exact h.elim
abbrev aSub : R2A := aI fun i j => i - j
/-- // by a positive divisor, below 2^62 or of few bits -/
def CDv (_ j : Int) : Prop := 0 < j ∧ (j < 4611686018427387904 ∨ j.natAbs.log2 < 9000)
abbrev aDiv : R2A := aIc CDv fun i j => i / j
theorem op_div : OpR X (binaryOp .FloorDiv) (rI CDv fun i j => .int (i / j)) := opI fun i j _ _ _ _ _ hc q => by
  have h1 : (0 : Int) < j := hc.1
  refine floordiv_int (by omega) (by rw [Int.fdiv_eq_ediv_of_nonneg i (by omega)]; exact q) (.inl (PyProof.noPylong_of_log2 ?_))
  rcases hc.2 with h | h
  · have hb : j.natAbs < 2 ^ 62 := by omega
    have := PySem.Flt.log2_lt_of (by decide : 0 < 62) hb
    omega
  · exact h
abbrev aMod : R2A := aIc (fun _ j => 0 < j) fun i j => i % j
/-- a ** b -/
def CPw (i j : Int) : Prop := 0 ≤ j ∧ ((j ≤ 1000000 ∧ i.natAbs < 2 ^ 64) ∨ (Builtin.Int.intBits i : Int) * j ≤ 2 ^ 27)
abbrev aPow : R2A := aIc CPw fun i j => i ^ j.toNat
theorem op_powZ : OpR X (binaryOp .Pow) (rI CPw fun i j => .int (i ^ j.toNat)) := opI fun i j _ _ _ _ _ hc q => by
  rcases hc.2 with h | h
  · exact pow_int_small hc.1 h.1 h.2 q
  · exact pow_int hc.1 h q
/-- a * b: ints; a list and an int -/
def CMl (i j : Int) : Prop := CMul i j ∨ CMulW i j
def aMul (mu : Bool) : R2A := fun a b m Q => match a, b with
  | .v (.int i), .v (.int j) => CMl i j ∧ Q (.v (.int (i * j))) m
  | a, .v (.int k) => (match asL m a with
    | some l => l.length * k.toNat ≤ sizeLine ∧ -(2 ^ 63) ≤ k ∧ k < 2 ^ 63 ∧ nw mu (List.replicate k.toNat l).flatten m Q
    | none => False)
  | _, _ => False
def rMulL : R2 := fun x y H Q => ∃ l k xs, x = .ref l ∧ y = .int k ∧ Rd H l (.lst xs) ∧ -(2 ^ 63) ≤ k ∧ k < 2 ^ 63 ∧ xs.length * k.toNat ≤ sizeLine ∧
  ∀ p, H p = none → Q (.ref p) (upd H p (.lst (List.replicate k.toNat xs).flatten))
theorem op_mulL : OpR X (binaryOp .Mult) rMulL := by
  intro pins s σ H x y v u Q I rx ry h
  obtain ⟨l, k, xs, rfl, rfl, hH, h1, h2, hz, q⟩ := h
  cases rx
  obtain ⟨t, rfl⟩ := ry
  obtain ⟨z, its, n, r, e⟩ := hH.ok I.hok
  have hl := r.length
  have hlen : its.toArray.size * k.toNat ≤ sizeLine := by rw [List.size_toArray, ← hl]; exact hz
  have hcap : ¬ its.toArray.size * k.toNat > (2 ^ 63 - 1) / 8 := by
    have : (sizeLine : Nat) ≤ (2 ^ 63 - 1) / 8 := by decide
    omega
  have hfit : ¬ (!Builtin.List.listFitsIndex k) = true := by
    rw [fitsIndex_both h1 h2]
    exact Bool.false_ne_true
  have hlong : ¬ Builtin.List.listTooLong (its.toArray.size * k.toNat) = true := by
    rw [notLongL hlen]
    exact Bool.false_ne_true
  have hnew : List.foldl (fun x1 x2 => x1 ++ x2) #[] (List.replicate (if its.toArray.isEmpty = true then 0 else k.toNat) its.toArray) = (List.replicate k.toNat its).flatten.toArray := by
    have f0 : ∀ m : Nat, List.foldl (fun x1 x2 => x1 ++ x2) #[] (List.replicate m its.toArray) = (List.replicate m its).flatten.toArray := fun m => by
      have := foldl_rep its m []
      rw [List.nil_append] at this
      exact this
    rw [f0]
    cases its with
    | nil => simp
    | cons a r' => rw [if_neg (by simp)]
  refine wpAny_binaryOp_repeat_ref (T := "list") (U := "int") (by decide) ⟨_, e, rfl⟩ (fun s' => typeIs_int s' k t) noFill_list_mul F.fills_int_mul F.slot_int_rmul repeat_list F.slot_int_index.lookup
    (call_meets F.slot_int_rmul (typeIs_int s k t) F.entry_int_rmul (F.args_int_rmul_2 _ _) (int___rmul___int_list k t l its.toArray n)
      ⟨e, rfl, ⟨_, e, rfl⟩, call_meets F.slot_list_mul ⟨_, e, rfl⟩ F.entry_list_mul (F.args_list_mul_2 _ _) (AutoListH.list___mul___list_int_3 l its.toArray n k t hfit hcap hlong) ⟨e, ?_⟩⟩)
  rw [hnew]
  exact ⟨.ref _, _, I.lnew (t' := s.toks) (r.rep k.toNat) (by rw [PyProof.Rows.lm_len_rep_flat, Nat.mul_comm]; exact hz), rfl, q _ I.fresh⟩
def rMulAll : R2 := fun x y H Q => rI CMl (fun i j => .int (i * j)) x y H Q ∨ rMulL x y H Q
theorem op_mulAll : OpR X (binaryOp .Mult) rMulAll := by
  refine OpR.or ?_ op_mulL
  intro pins s σ H x y v u Q I rx ry h
  obtain ⟨i, j, rfl, rfl, hc, q⟩ := h
  rcases hc with hc | hc
  · exact op_mul pins s σ H _ _ v u Q I rx ry ⟨i, j, rfl, rfl, hc, q⟩
  · exact op_mulW pins s σ H _ _ v u Q I rx ry ⟨i, j, rfl, rfl, hc, q⟩
theorem sim_mul {K : PySem.W.Frag} (mu : Bool) : Sim2 K rMulAll (aMul mu) := by
  intro F ro H m a b v w Q Qa c ia ib h p
  unfold aMul at h
  split at h
  · cases ia; cases ib; exact .inl ⟨_, _, rfl, rfl, h.1, p.god c (.int _) h.2⟩
  · split at h
    · rename_i x ex
      obtain ⟨a1, xs, rfl, r1, d1⟩ := asL_sq c ia ex
      cases ib
      exact .inr ⟨_, _, _, rfl, rfl, r1, h.2.1, h.2.2.1, by rw [d1.length]; exact h.1, p.nw c mu (d1.rep _) h.2.2.2⟩
    · exact h.elim
  · exact h.elim
def aNeg : U → Sto → QA → Prop := fun a m Q => match a with
  | .v (.int i) => Q (.v (.int (-i))) m
  | _ => False
theorem sim_neg {K : PySem.W.Frag} : Sim1 K (rU fun i => .int (-i)) aNeg := by
  intro F ro H m a v Q Qa c ia h p
  unfold aNeg at h
  split at h
  · cases ia; exact ⟨_, rfl, p.god c (.int _) h⟩
  · exact h.elim

/-! ### == and its kin -/
mutual
theorem IsD.dp {K : PySem.W.Frag} {H : Hp} : ∀ {d : PyData} {v : V}, IsD K H v d → d.canLay0 = true → Dp K H v d
  | .none, _, h, _ => by cases h; exact .non
  | .bool _, _, h, _ => by cases h; exact .bl _
  | .int _, _, h, _ => by cases h; exact .int _
  | .str _, _, h, _ => by cases h; exact .str _
  | .list ds, _, h, e => by
    cases h with
    | lst h1 h2 => exact .lst (Or.inl (Or.inl h1)) (IsDs.dp h2 (by simpa [PyData.canLay0] using e))
  | .tuple ds, _, h, e => by
    cases h with
    | tup h1 h2 => exact .tup (Or.inl h1) (IsDs.dp h2 (by simpa [PyData.canLay0] using e))
  | .dict _, _, _, e => by simp [PyData.canLay0] at e
theorem IsDs.dp {K : PySem.W.Frag} {H : Hp} : ∀ {ds : List PyData} {vs : List V}, IsDs K H vs ds → PyData.canLayAll0 ds = true → DpAll K H vs ds
  | [], _, h, _ => by cases h; exact .nil
  | d :: ds, _, h, e => by
    cases h with
    | cons h1 h2 =>
      simp only [PyData.canLayAll0, Bool.and_eq_true] at e
      exact .cons (IsD.dp h1 e.1) (IsDs.dp h2 e.2)
end
/-- data that == can be asked of: laid out, or two strs -/
def shE : PyData → PyData → Bool
  | .str _, .str _ => true
  | d, _ => SeqAt.shaped d
def aEq : R2A := fun a b m Q => match asD m a, asD m b with
  | some d, some e => shE d e = true ∧ shE e d = true ∧ Q (.v (.bool (PyData.eqv d e))) m
  | _, _ => False
def aNe : R2A := fun a b m Q => match asD m a, asD m b with
  | some d, some e => shE d e = true ∧ shE e d = true ∧ Q (.v (.bool (!PyData.eqv d e))) m
  | _, _ => False
def rEqX (K : PySem.W.Frag) : R2 := fun x y H Q => rEqD K x y H Q ∨ rEq x y H Q
def rNeX (K : PySem.W.Frag) : R2 := fun x y H Q => rNeD K x y H Q ∨ rNe x y H Q
theorem op_eqX {X : Cx} (hu : X.A.units + 64 < cLine) : OpR X (compareOp .Eq) (rEqX X.K) := by
  intro pins s σ H x y v u Q I rx ry h
  rcases h with h | h
  · exact op_eqD hu pins s σ H x y v u Q I rx ry h
  · exact op_eq pins s σ H x y v u Q I rx ry h
theorem op_neX {X : Cx} (hu : X.A.units + 64 < cLine) : OpR X (compareOp .NotEq) (rNeX X.K) := by
  intro pins s σ H x y v u Q I rx ry h
  rcases h with h | h
  · exact op_neD hu pins s σ H x y v u Q I rx ry h
  · exact op_ne pins s σ H x y v u Q I rx ry h
theorem shE_cases {d e : PyData} (h1 : shE d e = true) (h2 : shE e d = true) : (SeqAt.shaped d = true ∧ SeqAt.shaped e = true) ∨ ∃ x y, d = .str x ∧ e = .str y := by
  cases d <;> cases e <;> first | exact .inr ⟨_, _, rfl, rfl⟩ | exact .inl ⟨h1, h2⟩
theorem shE_i (i : Int) (e : PyData) : shE (.int i) e = true := rfl
theorem shE_b (b : Bool) (e : PyData) : shE (.bool b) e = true := rfl
theorem shE_n (e : PyData) : shE .none e = true := rfl
theorem shE_s (x y : Str) : shE (.str x) (.str y) = true := rfl
theorem shE_l (l : List PyData) (e : PyData) : shE (.list l) e = SeqAt.shaped (.list l) := rfl
theorem shE_t (l : List PyData) (e : PyData) : shE (.tuple l) e = SeqAt.shaped (.tuple l) := rfl
theorem eqv_ss (x y : Str) : decide (V.str x = V.str y) = PyData.eqv (.str x) (.str y) := by
  rw [PyData.eqv]
  exact dec_str
theorem sim_eq {K : PySem.W.Frag} : Sim2 K (rEqX K) aEq := by
  intro F ro H m a b v w Q Qa c ia ib h p
  unfold aEq at h
  split at h
  · rename_i d e ed ee
    obtain ⟨h1, h2, q⟩ := h
    rcases shE_cases h1 h2 with ⟨g1, g2⟩ | ⟨x, y, rfl, rfl⟩
    · exact .inl ⟨d, e, (asD_is c ia ed).dp (SeqAt.canLay_of_shaped g1), (asD_is c ib ee).dp (SeqAt.canLay_of_shaped g2), g1, g2, p.god c (.bl _) q⟩
    · have z1 := asD_is c ia ed
      have z2 := asD_is c ib ee
      cases z1
      cases z2
      refine .inr ⟨rfl, ?_⟩
      rw [eqv_ss]
      exact p.god c (.bl _) q
  · exact h.elim
theorem sim_ne {K : PySem.W.Frag} : Sim2 K (rNeX K) aNe := by
  intro F ro H m a b v w Q Qa c ia ib h p
  unfold aNe at h
  split at h
  · rename_i d e ed ee
    obtain ⟨h1, h2, q⟩ := h
    rcases shE_cases h1 h2 with ⟨g1, g2⟩ | ⟨x, y, rfl, rfl⟩
    · exact .inl ⟨d, e, (asD_is c ia ed).dp (SeqAt.canLay_of_shaped g1), (asD_is c ib ee).dp (SeqAt.canLay_of_shaped g2), g1, g2, p.god c (.bl _) q⟩
    · have z1 := asD_is c ia ed
      have z2 := asD_is c ib ee
      cases z1
      cases z2
      refine .inr ⟨rfl, ?_⟩
      rw [eqv_ss]
      exact p.god c (.bl _) q
  · exact h.elim
/-- x is None, x is not None -/
def isNone : U → Bool
  | .v .none => true
  | _ => false
def dIsN (t : AE) : AE := fun E m Q => t E m fun u m1 => Q (.v (.bool (isNone u))) m1
def dNotN (t : AE) : AE := fun E m Q => t E m fun u m1 => Q (.v (.bool (!isNone u))) m1
theorem isNone_of {K : PySem.W.Frag} {F : Hp} {ro : List Addr} {u : U} {v : V} (h : IsU K F ro u v) : decide (v = V.non) = isNone u := by
  cases u with
  | v d => cases h <;> rfl
  | r k => obtain ⟨a, _, rfl⟩ := h; rfl
  | s k => obtain ⟨a, rfl, _⟩ := h; rfl
  | o t => obtain ⟨a, rfl⟩ := IsO.ref h; rfl
theorem de_isN {e : Expr} {f : AE} {j : Nat} {pos pos' : Pos} (h : DE X e f) : DE X (.Compare e [.Is] [.Constant .none j pos'] pos) (dIsN f) := pe_imp (pe_cmp (pc_isN h) rfl) fun σ H Q ⟨F, ro, E, m, Qa, cm, ce, hf, p⟩ =>
  ⟨F, ro, E, m, _, cm, ce, hf, fun F1 ro1 H1 u v m1 g1 c1 i1 h1 => by
    show Q (.bl (decide (v = .non))) H1
    rw [isNone_of i1]
    exact (p.at g1).god c1 (.bl _) h1⟩
theorem de_notN {e : Expr} {f : AE} {j : Nat} {pos pos' : Pos} (h : DE X e f) : DE X (.Compare e [.IsNot] [.Constant .none j pos'] pos) (dNotN f) := pe_imp (pe_cmp (pc_notN h) rfl) fun σ H Q ⟨F, ro, E, m, Qa, cm, ce, hf, p⟩ =>
  ⟨F, ro, E, m, _, cm, ce, hf, fun F1 ro1 H1 u v m1 g1 c1 i1 h1 => by
    show Q (.bl (!decide (v = .non))) H1
    rw [isNone_of i1]
    exact (p.at g1).god c1 (.bl _) h1⟩
theorem dt_isN {e : Expr} {f : AE} {j : Nat} {pos pos' : Pos} (h : DE X e f) : DT X (.Compare e [.Is] [.Constant .none j pos'] pos) (dB (dIsN f)) := pt_imp (pt_cmp (pc_isN h) rfl) fun σ H Q ⟨F, ro, E, m, Qa, cm, ce, hf, p⟩ =>
  ⟨F, ro, E, m, _, cm, ce, hf, fun F1 ro1 H1 u v m1 g1 c1 i1 h1 => by
    show ∃ c, V.bl (decide (v = .non)) = .bl c ∧ Q c H1
    refine ⟨_, rfl, ?_⟩
    rw [isNone_of i1]
    exact p F1 ro1 H1 _ m1 g1 c1 h1⟩
theorem dt_notN {e : Expr} {f : AE} {j : Nat} {pos pos' : Pos} (h : DE X e f) : DT X (.Compare e [.IsNot] [.Constant .none j pos'] pos) (dB (dNotN f)) := pt_imp (pt_cmp (pc_notN h) rfl) fun σ H Q ⟨F, ro, E, m, Qa, cm, ce, hf, p⟩ =>
  ⟨F, ro, E, m, _, cm, ce, hf, fun F1 ro1 H1 u v m1 g1 c1 i1 h1 => by
    show ∃ c, V.bl (!decide (v = .non)) = .bl c ∧ Q c H1
    refine ⟨_, rfl, ?_⟩
    rw [isNone_of i1]
    exact p F1 ro1 H1 _ m1 g1 c1 h1⟩
/-- x is True, where x is a bool -/
def aBB (f : Bool → Bool → Bool) : R2A := fun a b m Q => match a, b with
  | .v (.bool i), .v (.bool j) => Q (.v (.bool (f i j))) m
  | _, _ => False
theorem sim_isB {K : PySem.W.Frag} : Sim2 K rIsB (aBB fun a b => decide (a = b)) := by
  intro F ro H m a b v w Q Qa c ia ib h p
  unfold aBB at h
  split at h
  · cases ia; cases ib; exact ⟨_, _, rfl, rfl, p.god c (.bl _) h⟩
  · exact h.elim
theorem sim_notB {K : PySem.W.Frag} : Sim2 K rNotB (aBB fun a b => !decide (a = b)) := by
  intro F ro H m a b v w Q Qa c ia ib h p
  unfold aBB at h
  split at h
  · cases ia; cases ib; exact ⟨_, _, rfl, rfl, p.god c (.bl _) h⟩
  · exact h.elim
/-- x in xs, flat things -/
def flatD : PyData → Bool
  | .none => true
  | .bool _ => true
  | .int _ => true
  | .str _ => true
  | _ => false
def inD (x : PyData) (l : List PyData) : Bool := l.any fun y => PyData.eqv y x
def asS (m : Sto) (u : U) : Option (List PyData) := match u with
  | .v (.tuple l) => some l
  | u => asQ m u
def aIn (neg : Bool) : R2A := fun a b m Q => match a, asS m b with
  | .v x, some l => flatD x = true ∧ l.all flatD = true ∧ Q (.v (.bool (if neg then !inD x l else inD x l))) m
  | _, _ => False
theorem flat_of {K : PySem.W.Frag} {F : Hp} {v : V} {d : PyData} (h : IsD K F v d) (f : flatD d = true) : flatV v = true := by
  cases h <;> first | rfl | (simp [flatD] at f)
theorem eqv_flat {K : PySem.W.Frag} {F : Hp} {v w : V} {d e : PyData} (h : IsD K F v d) (h' : IsD K F w e) (f : flatD d = true) (f' : flatD e = true) : eqV v w = PyData.eqv d e := by
  cases h <;> cases h' <;> first | rfl | exact absurd f (by simp [flatD]) | exact absurd f' (by simp [flatD]) | (simp [eqV, PyData.eqv])
theorem flat_all {K : PySem.W.Frag} {F : Hp} : ∀ {vs : List V} {ds : List PyData}, IsDs K F vs ds → ds.all flatD = true → vs.all flatV = true
  | _, _, .nil, _ => rfl
  | _, _, .cons h t, f => by
    simp only [List.all_cons, Bool.and_eq_true] at f ⊢
    exact ⟨flat_of h f.1, flat_all t f.2⟩
theorem inV_of {K : PySem.W.Frag} {F : Hp} {v : V} {d : PyData} (hv : IsD K F v d) (fv : flatD d = true) : ∀ {vs : List V} {ds : List PyData}, IsDs K F vs ds → ds.all flatD = true → inV v vs = inD d ds
  | _, _, .nil, _ => rfl
  | _, _, .cons h t, f => by
    simp only [List.all_cons, Bool.and_eq_true] at f
    have ih := inV_of hv fv t f.2
    unfold inV inD at ih ⊢
    rw [List.any_cons, List.any_cons, ih, eqv_flat h hv f.1 fv]
theorem asS_sq {K : PySem.W.Frag} {F H : Hp} {ro : List Addr} {m : Sto} (c : ConM K F ro H m) {u : U} {v : V} (h : IsU K F ro u v) {l : List PyData} (e : asS m u = some l) : ∃ a xs, v = .ref a ∧ (SqL K H a xs ∨ SqT K H a xs) ∧ IsDs K F xs l := by
  unfold asS at e
  split at e
  · cases e
    cases h with
    | tup h1 h2 => exact ⟨_, _, rfl, .inr (.inl (rd_mono c.ex h1)), h2⟩
  · obtain ⟨a, xs, h1, h2, h3⟩ := asQ_sq c h e
    exact ⟨a, xs, h1, .inl h2, h3⟩
theorem sim_in {K : PySem.W.Frag} (neg : Bool) : Sim2 K (rIn K neg) (aIn neg) := by
  intro F ro H m a b v w Q Qa c ia ib h p
  unfold aIn at h
  split at h
  · rename_i x l el
    obtain ⟨a, xs, rfl, hs, hd⟩ := asS_sq c ib el
    refine ⟨a, xs, rfl, hs, flat_of ia h.1, flat_all hd h.2.1, ?_⟩
    rw [inV_of ia h.1 hd h.2.1]
    exact p.god c (.bl _) h.2.2
  · exact h.elim
end
end Z
/-! Z5: items, slices, built-ins, methods, walks. -/
namespace Z
open PySem PySem.Spec PyProof.Rows L2

/-! ### items and slices -/
def aIx : R2A := fun a b m Q => match b with
  | .v (.int i) => (match asS m a with
    | some l => (match atI l i with
      | some d => Q (.v d) m
      | none => False)
    | none => (match a with
      | .v (.str z) => z.length ≤ sizeLine ∧ (match atI z.cps.toList i with
        | some c => Q (.v (.str ⟨#[c]⟩)) m
        | none => False)
      | _ => False))
  | _ => False
theorem atI_is {K : PySem.W.Frag} {F : Hp} {vs : List V} {ds : List PyData} (h : IsDs K F vs ds) {i : Int} {d : PyData} (e : atI ds i = some d) : ∃ v, atI vs i = some v ∧ IsD K F v d := by
  unfold atI at e ⊢
  rw [h.length]
  cases q : ixN ds.length i with
  | none => rw [q] at e; cases e
  | some j =>
    rw [q] at e
    exact h.get e
theorem sim_ix {K : PySem.W.Frag} : Sim2 K (rIx K) aIx := by
  intro F ro H m a b v w Q Qa c ia ib h p
  unfold aIx at h
  split at h
  · rename_i i
    cases ib
    split at h
    · rename_i l el
      obtain ⟨x, xs, rfl, hs, hd⟩ := asS_sq c ia el
      split at h
      · rename_i d ed
        obtain ⟨v, e1, e2⟩ := atI_is hd ed
        rcases hs with hs | hs
        · exact .inl ⟨_, _, _, _, rfl, rfl, hs, e1, p.god c e2 h⟩
        · exact .inr (.inl ⟨_, _, _, _, rfl, rfl, hs, e1, p.god c e2 h⟩)
      · exact h.elim
    · split at h
      · obtain ⟨hz, h⟩ := h
        split at h
        · rename_i ed
          cases ia
          exact .inr (.inr ⟨_, _, _, rfl, rfl, hz, ed, p.god c (.str _) h⟩)
        · exact h.elim
      · exact h.elim
  · exact h.elim
section
variable {X : Cx}
theorem de_ix {a b : Expr} {fa fb : AE} {pos : Pos} (ha : DE X a fa) (hb : DE X b fb) (hs : PlainIx b := by intro _ _; rfl) : DE X (.Subscript a b pos) (dOp aIx fa fb) :=
  pe_imp (pe_ix ix_seq ha hb hs) (tOp_sim sim_ix)
/-- the bounds of a slice -/
abbrev AO := En → Sto → (Option Int → Sto → Prop) → Prop
def cO (K : PySem.W.Frag) (f : AO) : TO := fun σ H Q => ∃ F ro E m Qa, ConM K F ro H m ∧ ConE K F ro σ E ∧ f E m Qa ∧ ∀ (F' : Hp) (ro' : List Addr) (H' : Hp) (o : Option Int) (m' : Sto), Gro F ro H F' ro' H' → ConM K F' ro' H' m' → Qa o m' → Q o H'
abbrev DO (X : Cx) (e : Option Expr) (f : AO) : Prop := PO X e (cO X.K f)
theorem po_imp {e : Option Expr} {t t' : TO} (h : PO X e t) (i : ∀ σ H Q, t' σ H Q → t σ H Q) : PO X e t' := ⟨fun pins s σ H Q I hw => h.run pins s σ H Q I (i σ H Q hw)⟩
def dNoPart : AO := fun _ m Q => Q none m
def dPart (t : AE) : AO := fun E m Q => t E m fun u m1 => match u with
  | .v (.int i) => Q (some i) m1
  | _ => False
theorem do_none : DO X none dNoPart := po_imp po_none fun σ H Q ⟨F, ro, E, m, Qa, cm, ce, hf, p⟩ => p F ro H none m Gro.refl cm hf
theorem do_some {e : Expr} {f : AE} (h : DE X e f) : DO X (some e) (dPart f) := po_imp (po_some h) fun σ H Q ⟨F, ro, E, m, Qa, cm, ce, hf, p⟩ =>
  ⟨F, ro, E, m, _, cm, ce, hf, fun F1 ro1 H1 u v m1 g1 c1 i1 h1 => by
    revert h1
    split
    · intro h1
      cases i1
      exact ⟨_, rfl, p F1 ro1 H1 _ m1 g1 c1 h1⟩
    · exact fun h => h.elim⟩
def cutD (xs : List PyData) (lo hi : Option Int) : List PyData := (xs.drop (HT.sIx xs.length 0 lo)).take (HT.sIx xs.length xs.length hi - HT.sIx xs.length 0 lo)
theorem cut_is {K : PySem.W.Frag} {F : Hp} {vs : List V} {ds : List PyData} (h : IsDs K F vs ds) (lo hi : Option Int) : IsDs K F (cutV vs lo hi) (cutD ds lo hi) := by
  unfold cutV cutD
  rw [h.length]
  exact (h.drop _).take _
def dSl (mu : Bool) (ta : AE) (tl th : AO) : AE := fun E m Q => ta E m fun u m1 => tl E m1 fun lo m2 => th E m2 fun hi m3 => match asQ m3 u with
  | some l => nw mu (cutD l lo hi) m3 Q
  | none => False
theorem de_sl (mu : Bool) {e : Expr} {lo hi : Option Expr} {f : AE} {fl fh : AO} {p2 pos : Pos} (he : DE X e f) (hl : DO X lo fl) (hu : DO X hi fh) : DE X (.Subscript e (.Slice lo hi none p2) pos) (dSl mu f fl fh) :=
  pe_imp (pe_slice sl_list he hl hu) fun σ H Q ⟨F, ro, E, m, Qa, cm, ce, hf, p⟩ =>
    ⟨F, ro, E, m, _, cm, ce, hf, fun F1 ro1 H1 u v m1 g1 c1 i1 h1 => ⟨F1, ro1, E, m1, _, c1, ce.mono g1, h1, fun F2 ro2 H2 lo m2 g2 c2 h2 => ⟨F2, ro2, E, m2, _, c2, ce.mono (g1.trans g2), h2, fun F3 ro3 H3 hi m3 g3 c3 h3 => by
      revert h3
      split
      · rename_i l el
        intro h3
        obtain ⟨a, xs, rfl, r, d⟩ := asQ_sq c3 (i1.mono (g2.trans g3)) el
        exact ⟨a, xs, rfl, r, (p.at (g1.trans (g2.trans g3))).nw c3 mu (cut_is d lo hi) h3⟩
      · exact fun h => h.elim⟩⟩⟩
/-- xs[::-1] -/
def dRev (mu : Bool) (ta : AE) : AE := fun E m Q => ta E m fun u m1 => match asL m1 u with
  | some l => nw mu l.reverse m1 Q
  | none => False
theorem de_rev (mu : Bool) {e : Expr} {f : AE} {k : Nat} {p1 p2 p3 pos : Pos} (he : DE X e f) : DE X (.Subscript e (.Slice none none (some (.UnaryOp .USub (.Constant (.int 1) k p1) p2)) p3) pos) (dRev mu f) :=
  pe_imp (pe_revL he) fun σ H Q ⟨F, ro, E, m, Qa, cm, ce, hf, p⟩ =>
    ⟨F, ro, E, m, _, cm, ce, hf, fun F1 ro1 H1 u v m1 g1 c1 i1 h1 => by
      revert h1
      split
      · rename_i l el
        intro h1
        obtain ⟨a, xs, rfl, r, d⟩ := asL_sq c1 i1 el
        exact ⟨a, xs, rfl, Or.inl r, (p.at g1).nw c1 mu d.reverse h1⟩
      · exact fun h => h.elim⟩

/-! ### built-ins -/
def intsOf : List PyData → Option (List Int)
  | [] => some []
  | .int i :: l => (intsOf l).map (i :: ·)
  | _ :: _ => none
def boolsOf : List PyData → Option (List Bool)
  | [] => some []
  | .bool i :: l => (boolsOf l).map (i :: ·)
  | _ :: _ => none
@[simp] theorem intsOf_map : ∀ l : List Int, intsOf (l.map .int) = some l
  | [] => rfl
  | i :: l => by simp [intsOf, intsOf_map l]
@[simp] theorem boolsOf_map : ∀ l : List Bool, boolsOf (l.map .bool) = some l
  | [] => rfl
  | i :: l => by simp [boolsOf, boolsOf_map l]
theorem intsOf_eq : ∀ {l : List PyData} {ns : List Int}, intsOf l = some ns → l = ns.map .int
  | [], _, h => by cases h; rfl
  | d :: l, ns, h => by
    cases d <;> simp [intsOf] at h
    obtain ⟨r, h1, h2⟩ := h
    subst h2
    rw [intsOf_eq h1] <;> rfl
theorem boolsOf_eq : ∀ {l : List PyData} {ns : List Bool}, boolsOf l = some ns → l = ns.map .bool
  | [], _, h => by cases h; rfl
  | d :: l, ns, h => by
    cases d <;> simp [boolsOf] at h
    obtain ⟨r, h1, h2⟩ := h
    subst h2
    rw [boolsOf_eq h1] <;> rfl
/-- the ints, the bools of a list -/
def asI (m : Sto) (u : U) : Option (List Int) := (asL m u).bind intsOf
def asBs (m : Sto) (u : U) : Option (List Bool) := (asL m u).bind boolsOf
theorem asI_sq {K : PySem.W.Frag} {F H : Hp} {ro : List Addr} {m : Sto} (c : ConM K F ro H m) {u : U} {v : V} (h : IsU K F ro u v) {l : List Int} (e : asI m u = some l) : ∃ a, v = .ref a ∧ SqL K H a (l.map V.int) := by
  obtain ⟨x, e1, e2⟩ := Option.bind_eq_some_iff.mp e
  obtain ⟨a, xs, h1, h2, h3⟩ := asL_sq c h e1
  rw [intsOf_eq e2] at h3
  rw [h3.ints] at h2
  exact ⟨a, h1, .inl h2⟩
theorem asBs_sq {K : PySem.W.Frag} {F H : Hp} {ro : List Addr} {m : Sto} (c : ConM K F ro H m) {u : U} {v : V} (h : IsU K F ro u v) {l : List Bool} (e : asBs m u = some l) : ∃ a, v = .ref a ∧ SqL K H a (l.map V.bl) := by
  obtain ⟨x, e1, e2⟩ := Option.bind_eq_some_iff.mp e
  obtain ⟨a, xs, h1, h2, h3⟩ := asL_sq c h e1
  rw [boolsOf_eq e2] at h3
  rw [h3.bools] at h2
  exact ⟨a, h1, .inl h2⟩
abbrev R1A := List U → Sto → QA → Prop
theorem iu1 {K : PySem.W.Frag} {F : Hp} {ro : List Addr} {u : U} {vs : List V} (h : IsUs K F ro [u] vs) : ∃ v, vs = [v] ∧ IsU K F ro u v := by
  cases h with
  | cons a b => cases b; exact ⟨_, rfl, a⟩
theorem iu2 {K : PySem.W.Frag} {F : Hp} {ro : List Addr} {u w : U} {vs : List V} (h : IsUs K F ro [u, w] vs) : ∃ v x, vs = [v, x] ∧ IsU K F ro u v ∧ IsU K F ro w x := by
  cases h with
  | cons a b =>
    cases b with
    | cons a' b' => cases b'; exact ⟨_, _, rfl, a, a'⟩
/-- len -/
def aLen : R1A := fun us m Q => match us with
  | [u] => (match asS m u with
    | some l => Q (.v (.int l.length)) m
    | none => (match u with
      | .v (.str z) => z.length ≤ sizeLine ∧ Q (.v (.int z.length)) m
      | _ => False))
  | _ => False
def rLen (K : PySem.W.Frag) : List V → Hp → VK → Prop := fun xs H Q => (∃ p ys, xs = [.ref p] ∧ (SqL K H p ys ∨ SqT K H p ys) ∧ Q (.int ys.length) H) ∨ ∃ z, xs = [.str z] ∧ z.length ≤ sizeLine ∧ Q (.int z.length) H
theorem call_lenA : CallR X (.builtin "len") (rLen X.K) := call_len_seq.or call_len_str
theorem sim_len {K : PySem.W.Frag} : SimC K (rLen K) aLen := by
  intro F ro H m us vs Q Qa c iu h p
  unfold aLen at h
  split at h
  · obtain ⟨v, rfl, i1⟩ := iu1 iu
    split at h
    · rename_i l el
      obtain ⟨a, xs, rfl, hs, hd⟩ := asS_sq c i1 el
      refine .inl ⟨a, xs, rfl, hs, ?_⟩
      rw [hd.length]
      exact p.god c (.int _) h
    · split at h
      · cases i1
        exact .inr ⟨_, rfl, h.1, p.god c (.int _) h.2⟩
      · exact h.elim
  · exact h.elim
/-- max, min: of two ints, of a list of ints -/
def aMax : R1A := fun us m Q => match us with
  | [.v (.int i), .v (.int j)] => Q (.v (.int (if j > i then j else i))) m
  | [u] => (match asI m u with
    | some l => 0 < l.length ∧ ∀ x, x ∈ l → (∀ y, y ∈ l → y ≤ x) → Q (.v (.int x)) m
    | none => False)
  | _ => False
def aMin : R1A := fun us m Q => match us with
  | [.v (.int i), .v (.int j)] => Q (.v (.int (if j < i then j else i))) m
  | [u] => (match asI m u with
    | some l => 0 < l.length ∧ ∀ x, x ∈ l → (∀ y, y ∈ l → x ≤ y) → Q (.v (.int x)) m
    | none => False)
  | _ => False
def rMaxA (K : PySem.W.Frag) : List V → Hp → VK → Prop := fun xs H Q => (∃ i j, xs = [.int i, .int j] ∧ Q (.int (if j > i then j else i)) H) ∨ rMax K xs H Q
def rMinA (K : PySem.W.Frag) : List V → Hp → VK → Prop := fun xs H Q => (∃ i j, xs = [.int i, .int j] ∧ Q (.int (if j < i then j else i)) H) ∨ rMin K xs H Q
theorem call_maxA (hc : X.calm = true) : CallR X (.builtin "max") (rMaxA X.K) := (call_max2 hc).or (cr_max hc)
theorem call_minA (hc : X.calm = true) : CallR X (.builtin "min") (rMinA X.K) := (call_min2 hc).or (cr_min hc)
theorem sim_max {K : PySem.W.Frag} : SimC K (rMaxA K) aMax := by
  intro F ro H m us vs Q Qa c iu h p
  unfold aMax at h
  split at h
  · obtain ⟨v, w, rfl, i1, i2⟩ := iu2 iu
    cases i1; cases i2
    exact .inl ⟨_, _, rfl, p.god c (.int _) h⟩
  · obtain ⟨v, rfl, i1⟩ := iu1 iu
    split at h
    · rename_i l el
      obtain ⟨a, rfl, hs⟩ := asI_sq c i1 el
      exact .inr ⟨a, l, rfl, hs, h.1, fun x h1 h2 => p.god c (.int _) (h.2 x h1 h2)⟩
    · exact h.elim
  · exact h.elim
theorem sim_min {K : PySem.W.Frag} : SimC K (rMinA K) aMin := by
  intro F ro H m us vs Q Qa c iu h p
  unfold aMin at h
  split at h
  · obtain ⟨v, w, rfl, i1, i2⟩ := iu2 iu
    cases i1; cases i2
    exact .inl ⟨_, _, rfl, p.god c (.int _) h⟩
  · obtain ⟨v, rfl, i1⟩ := iu1 iu
    split at h
    · rename_i l el
      obtain ⟨a, rfl, hs⟩ := asI_sq c i1 el
      exact .inr ⟨a, l, rfl, hs, h.1, fun x h1 h2 => p.god c (.int _) (h.2 x h1 h2)⟩
    · exact h.elim
  · exact h.elim
def aAbs : R1A := fun us m Q => match us with
  | [.v (.int i)] => Q (.v (.int (if i < 0 then -i else i))) m
  | _ => False
theorem sim_abs {K : PySem.W.Frag} : SimC K (fun xs H Q => ∃ i, xs = [.int i] ∧ Q (.int (if i < 0 then -i else i)) H) aAbs := by
  intro F ro H m us vs Q Qa c iu h p
  unfold aAbs at h
  split at h
  · obtain ⟨v, rfl, i1⟩ := iu1 iu
    cases i1
    exact ⟨_, rfl, p.god c (.int _) h⟩
  · exact h.elim
def aSum : R1A := fun us m Q => match us with
  | [u] => (match asI m u with
    | some l => Q (.v (.int l.sum)) m
    | none => False)
  | _ => False
theorem sim_sum {K : PySem.W.Frag} : SimC K (rSum K) aSum := by
  intro F ro H m us vs Q Qa c iu h p
  unfold aSum at h
  split at h
  · obtain ⟨v, rfl, i1⟩ := iu1 iu
    split at h
    · rename_i l el
      obtain ⟨a, rfl, hs⟩ := asI_sq c i1 el
      exact ⟨a, l, rfl, hs, p.god c (.int _) h⟩
    · exact h.elim
  · exact h.elim
def aAll : R1A := fun us m Q => match us with
  | [u] => (match asBs m u with
    | some l => Q (.v (.bool (l.all id))) m
    | none => False)
  | _ => False
def aAny : R1A := fun us m Q => match us with
  | [u] => (match asBs m u with
    | some l => Q (.v (.bool (l.any id))) m
    | none => False)
  | _ => False
theorem sim_all {K : PySem.W.Frag} : SimC K (rAll K) aAll := by
  intro F ro H m us vs Q Qa c iu h p
  unfold aAll at h
  split at h
  · obtain ⟨v, rfl, i1⟩ := iu1 iu
    split at h
    · rename_i l el
      obtain ⟨a, rfl, hs⟩ := asBs_sq c i1 el
      exact ⟨a, l, rfl, hs, p.god c (.bl _) h⟩
    · exact h.elim
  · exact h.elim
theorem sim_any {K : PySem.W.Frag} : SimC K (rAny K) aAny := by
  intro F ro H m us vs Q Qa c iu h p
  unfold aAny at h
  split at h
  · obtain ⟨v, rfl, i1⟩ := iu1 iu
    split at h
    · rename_i l el
      obtain ⟨a, rfl, hs⟩ := asBs_sq c i1 el
      exact ⟨a, l, rfl, hs, p.god c (.bl _) h⟩
    · exact h.elim
  · exact h.elim
/-- list(x) -/
def aList (mu : Bool) : R1A := fun us m Q => match us with
  | [u] => (match asS m u with
    | some l => nw mu l m Q
    | none => False)
  | _ => False
theorem sim_list {K : PySem.W.Frag} (mu : Bool) : SimC K (fun xs H Q => ∃ p ys, xs = [.ref p] ∧ (SqL K H p ys ∨ SqT K H p ys) ∧ ∀ l, H l = none → Q (.ref l) (upd H l (.lst ys))) (aList mu) := by
  intro F ro H m us vs Q Qa c iu h p
  unfold aList at h
  split at h
  · obtain ⟨v, rfl, i1⟩ := iu1 iu
    split at h
    · rename_i l el
      obtain ⟨a, xs, rfl, hs, hd⟩ := asS_sq c i1 el
      exact ⟨a, xs, rfl, hs, p.nw c mu (IsDs.mono c.ex (IsDs.mono (Same.refl _) hd) |> fun _ => hd) h⟩
    · exact h.elim
  · exact h.elim
/-- tuple(x) -/
def aTuple : R1A := fun us m Q => match us with
  | [u] => (match asS m u with
    | some l => Q (.v (.tuple l)) m
    | none => False)
  | _ => False
theorem sim_tuple {K : PySem.W.Frag} : SimC K (fun xs H Q => ∃ p ys, xs = [.ref p] ∧ ((SqL K H p ys ∧ ∀ l, H l = none → Q (.ref l) (upd H l (.tup ys))) ∨ (SqT K H p ys ∧ Q (.ref p) H))) aTuple := by
  intro F ro H m us vs Q Qa c iu h p
  unfold aTuple at h
  split at h
  · obtain ⟨v, rfl, i1⟩ := iu1 iu
    split at h
    · rename_i l el
      unfold asS at el
      split at el
      · cases el
        cases i1 with
        | tup h1 h2 => exact ⟨_, _, rfl, .inr ⟨.inl (rd_mono c.ex h1), p.god c (.tup h1 h2) h⟩⟩
      · obtain ⟨a, xs, rfl, h2, h3⟩ := asQ_sq c i1 el
        exact ⟨a, xs, rfl, .inl ⟨h2, p.newT c h3 h⟩⟩
    · exact h.elim
  · exact h.elim
/-- int(x): an int, a bool -/
def aInt : R1A := fun us m Q => match us with
  | [.v (.int i)] => Q (.v (.int i)) m
  | [.v (.bool b)] => Q (.v (.int (if b then 1 else 0))) m
  | _ => False
theorem sim_int {K : PySem.W.Frag} : SimC K (fun xs H Q => (∃ i, xs = [.int i] ∧ Q (.int i) H) ∨ ∃ k, xs = [.bl k] ∧ Q (.int (if k then 1 else 0)) H) aInt := by
  intro F ro H m us vs Q Qa c iu h p
  unfold aInt at h
  split at h
  · obtain ⟨v, rfl, i1⟩ := iu1 iu
    cases i1
    exact .inl ⟨_, rfl, p.god c (.int _) h⟩
  · obtain ⟨v, rfl, i1⟩ := iu1 iu
    cases i1
    exact .inr ⟨_, rfl, p.god c (.int _) h⟩
  · exact h.elim
/-- sorted, fewer than 64 ints: the sorted list -/
def aSorted (mu : Bool) : R1A := fun us m Q => match us with
  | [u] => (match asI m u with
    | some l => l.length < 64 ∧ ∀ l' : List Int, l'.Perm l → l'.Pairwise (· ≤ ·) → nw mu (l'.map .int) m Q
    | none => False)
  | _ => False
theorem sim_sorted {K : PySem.W.Frag} (mu : Bool) : SimC K (rSorted K) (aSorted mu) := by
  intro F ro H m us vs Q Qa c iu h p
  unfold aSorted at h
  split at h
  · obtain ⟨v, rfl, i1⟩ := iu1 iu
    split at h
    · rename_i l el
      obtain ⟨a, rfl, hs⟩ := asI_sq c i1 el
      exact ⟨a, l, rfl, hs, h.1, fun l' b h1 h2 hb => p.nw c mu (IsDs.of_ints l') (h.2 l' h1 h2) b hb⟩
    · exact h.elim
  · exact h.elim

/-! ### repr -/
def noDict : PyData → Bool := fun d => !d.hasDict
def aRepr : R1A := fun us m Q => match us with
  | [u] => (match asD m u with
    | some d => d.canLay0 = true ∧ d.showable = true ∧ d.depth ≤ 64 ∧ d.shown.length ≤ sizeLine ∧ Q (.v (.str d.shown)) m
    | none => False)
  | _ => False
def rRepr (K : PySem.W.Frag) : List V → Hp → VK → Prop := fun xs H Q => ∃ v d, xs = [v] ∧ Dp K H v d ∧ d.showable = true ∧ d.hasDict = false ∧ d.depth ≤ 64 ∧ d.shown.length ≤ sizeLine ∧ Q (.str d.shown) H
theorem call_repr (hr : X.A.units + 66 < cLine) (hg : X.A.guards = some []) : CallR X (.builtin "repr") (rRepr X.K) := by
  intro pins s σ H xs us Q I r h
  obtain ⟨v, d, rfl, hd, h1, h2, h3, h4, q⟩ := h
  obtain ⟨u, rfl, ru⟩ := vals1 r
  obtain ⟨as, rd⟩ := Dp.reads I d v u hd ru
  have go : ∀ a, u = .ref a → wpAny (model X.prog X.w) X.A (call (.builtin "repr") [u]) (EP X pins σ Q) X.xe s := fun a e => by
    subst e
    refine repr_of_reads' rd h1 (PyData.noDict_hsm h2) hg (by omega) (fun _ _ e => e) (fun h' u' tk hk => ?_) h4
    exact ⟨.str _, H, I.kept (t' := tk) hk, ⟨_, rfl⟩, q⟩
  cases hd with
  | non => cases ru; exact PySem.P.repr_of_none ⟨.str _, H, I.tok _, ⟨_, rfl⟩, q⟩
  | bl b => cases ru; exact PySem.P.repr_of_bool ⟨.str _, H, I.tok _, ⟨_, rfl⟩, q⟩
  | int i =>
    obtain ⟨t, rfl⟩ := ru
    exact PySem.P.repr_of_int (by simpa [PyData.showable] using h1) ⟨.str _, H, I.tok _, ⟨_, rfl⟩, q⟩
  | str x =>
    obtain ⟨t, rfl⟩ := ru
    exact PySem.P.repr_of_str ⟨.str _, H, I.tok _, ⟨_, rfl⟩, q⟩ h4
  | lst _ _ => exact go _ ru
  | tup _ _ => exact go _ ru
mutual
theorem no_dict1 : ∀ {d : PyData}, d.canLay0 = true → d.hasDict = false
  | .none, _ => rfl
  | .bool _, _ => rfl
  | .int _, _ => rfl
  | .str _, _ => rfl
  | .list l, h => by
    simp only [PyData.hasDict]
    exact no_dictAll (by simpa [PyData.canLay0] using h)
  | .tuple l, h => by
    simp only [PyData.hasDict]
    exact no_dictAll (by simpa [PyData.canLay0] using h)
  | .dict _, h => by simp [PyData.canLay0] at h
theorem no_dictAll : ∀ {d : List PyData}, PyData.canLayAll0 d = true → PyData.hasDictAll d = false
  | [], _ => rfl
  | d :: ds, h => by
    simp only [PyData.canLayAll0, Bool.and_eq_true] at h
    simp only [PyData.hasDictAll, no_dict1 h.1, no_dictAll h.2, Bool.or_self]
end
theorem no_dict : ∀ {d : PyData}, d.canLay0 = true → d.hasDict = false := by
  exact no_dict1
theorem sim_repr {K : PySem.W.Frag} : SimC K (rRepr K) aRepr := by
  intro F ro H m us vs Q Qa c iu h p
  unfold aRepr at h
  split at h
  · obtain ⟨v, rfl, i1⟩ := iu1 iu
    split at h
    · rename_i d ed
      exact ⟨v, d, rfl, (asD_is c i1 ed).dp h.1, h.2.1, no_dict h.1, h.2.2.1, h.2.2.2.1, p.god c (.str _) h.2.2.2.2⟩
    · exact h.elim
  · exact h.elim

/-! ### isinstance, one built-in class -/
def kindD : PyData → String
  | .none => "NoneType"
  | .bool _ => "bool"
  | .int _ => "int"
  | .str _ => "str"
  | .list _ => "list"
  | .tuple _ => "tuple"
  | .dict _ => "dict"
def isK (a b : String) : Bool := a == b || (a == "bool" && b == "int")
def dIsi (T : String) (t : AE) : AE := fun E m Q => t E m fun u m1 => match asD m1 u with
  | some d => Q (.v (.bool (isK (kindD d) T))) m1
  | none => False
theorem kitB_is : ∀ a ∈ ["NoneType", "bool", "int", "str", "list", "tuple", "dict"], ∀ b ∈ ["bool", "int", "str", "list", "tuple", "dict"], kitB a b = some (isK a b) := by decide +kernel
theorem kind_mem (d : PyData) : kindD d ∈ ["NoneType", "bool", "int", "str", "list", "tuple", "dict"] := by cases d <;> simp [kindD]
theorem tyX_of {K : PySem.W.Frag} {H : Hp} {v : V} {d : PyData} (h : IsD K H v d) : TyX K H v (.type (kindD d)) := by
  cases h with
  | non => exact .base .non
  | bl b => exact .base (.bl b)
  | int i => exact .base (.int i)
  | str x => exact .base (.str x)
  | lst h1 _ => exact .base (.lst h1)
  | tup h1 _ =>
    rcases h1 with h1 | ⟨o, h1⟩
    · exact .base (.tup h1)
    · exact .fTuple h1
  | dct h1 _ => exact .base (.dK h1)
theorem de_isi {e : Expr} {f : AE} {T : String} {x : Str} {p1 p2 pos : Pos} (hT : T ∈ ["bool", "int", "str", "list", "tuple", "dict"]) (he : DE X e f) (hm : X.mg "isinstance" = none) (hmT : X.mg x = none) (hv : bootBuiltins x = some (.type T)) (hg : Gl X "isinstance" := by rfl) (hgT : Gl X x := by rfl)
    (hn : x ≠ "__name__" := by decide) (hdb : (x == ("__debug__" : Str)) = false := by decide) (hs : starEach [e, .Name x p2] X.env = (false, eval e X.env) :: starEach [.Name x p2] X.env := by rfl) (hs2 : starEach [.Name x p2] X.env = (false, eval (.Name x p2) X.env) :: starEach [] X.env := by rfl)
    (hpl : (backTo pos (starEach [.Name x p2] X.env)).any (·.1) = false := by rfl) : DE X (.Call (.Name "isinstance" p1) [e, .Name x p2] [] pos) (dIsi T f) :=
  pe_imp (pe_callB call_isi hg hm (by decide +kernel) (pa_cons he (pa_cons (pe_bltn (v := .ty T) hgT hmT hv rfl hn hdb) pa_nil hs2) hs) (he := hs) (hpl := hpl)) fun σ H Q ⟨F, ro, E, m, Qa, cm, ce, hf, p⟩ =>
    ⟨F, ro, E, m, _, cm, ce, hf, fun F1 ro1 H1 u v m1 g1 c1 i1 h1 => by
      revert h1
      split
      · rename_i d ed
        intro h1
        refine ⟨v, .ty T, .type (kindD d), .type T, _, rfl, .ty T, tyX_of (asD_is c1 i1 ed), kit_ty (kitB_is _ (kind_mem d) _ hT), (p.at g1).god c1 (.bl _) h1⟩
      · exact fun h => h.elim⟩

/-! ### methods of lists -/
def dMeth (f : U → List U → Sto → QA → Prop) (to : AE) (ta : AA) : AE := fun E m Q => to E m fun o m1 => (asL m1 o).isSome = true ∧ ta E m1 fun us m2 => f o us m2 Q
def SimM (K : PySem.W.Frag) (r : V → List V → Hp → VK → Prop) (f : U → List U → Sto → QA → Prop) : Prop := ∀ (F : Hp) (ro : List Addr) (H : Hp) (m : Sto) (o : U) (x : V) (us : List U) (vs : List V) (Q : VK) (Qa : QA), ConM K F ro H m → IsU K F ro o x → IsUs K F ro us vs → f o us m Qa → Post K F ro H Qa Q → r x vs H Q
theorem tyV_list {K : PySem.W.Frag} {F H : Hp} {ro : List Addr} {m : Sto} (c : ConM K F ro H m) {u : U} {v : V} (h : IsU K F ro u v) (e : (asL m u).isSome = true) : tyV K "list" v H := by
  obtain ⟨l, el⟩ := Option.isSome_iff_exists.mp e
  obtain ⟨a, xs, rfl, r, _⟩ := asL_sq c h el
  exact .inl ⟨rfl, xs, .inl r⟩
theorem de_meth {o e : Expr} {es : List Expr} {fo : AE} {g : AA} {name : Str} {id : String} {apos cpos : Pos} {r : V → List V → Hp → VK → Prop} {f : U → List U → Sto → QA → Prop} (slot : Slot "list" name id) (hty : typeOf (.builtin id) = pure (.type "method_descriptor")) (hm : MtR X id r) (hs : SimM X.K r f) (ho : DE X o fo) (ha : DA X (e :: es) g)
    (hbase : attributeBase o name X.env (eval o X.env) = eval o X.env := by rfl)
    (hfew : ((backTo cpos (starEach (e :: es) X.env)).all (fun x => !x.1) && (backToKw cpos (keywordEach [] X.env)).all (fun x => x.1.isSome)
      && decide ((e :: es).length + ([] : List Keyword).length + (if ([] : List Keyword).isEmpty then 0 else 1) < 30)) = true := by rfl)
    (hline : (apos.endLine == cpos.line) = true := by rfl) (hst : starEach (e :: es) X.env = (false, eval e X.env) :: starEach es X.env := by rfl) (hplain : (backTo cpos (starEach es X.env)).any (·.1) = false := by rfl) :
    DE X (.Call (.Attribute o name apos) (e :: es) [] cpos) (dMeth f fo g) := pe_imp (pe_bm PySem.F.plainAttrs_list slot hty hm ho ha hbase hfew hline hst hplain) fun σ H Q ⟨F, ro, E, m, Qa, cm, ce, hf, p⟩ =>
  ⟨F, ro, E, m, _, cm, ce, hf, fun F1 ro1 H1 u v m1 g1 c1 i1 h1 => ⟨tyV_list c1 i1 h1.1, F1, ro1, E, m1, _, c1, ce.mono g1, h1.2, fun F2 ro2 H2 us vs m2 g2 c2 i2 h2 => hs F2 ro2 H2 m2 u v us vs Q Qa c2 (i1.mono g2) i2 h2 (p.at (g1.trans g2))⟩⟩
theorem de_meth0 {o : Expr} {fo : AE} {name : Str} {id : String} {apos cpos : Pos} {r : V → List V → Hp → VK → Prop} {f : U → List U → Sto → QA → Prop} (slot : Slot "list" name id) (hty : typeOf (.builtin id) = pure (.type "method_descriptor")) (hm : MtR X id r) (hs : SimM X.K r f) (ho : DE X o fo)
    (hbase : attributeBase o name X.env (eval o X.env) = eval o X.env := by rfl) (hline : (apos.endLine == cpos.line) = true := by rfl) :
    DE X (.Call (.Attribute o name apos) [] [] cpos) (dMeth f fo dNil) := pe_imp (pe_bm0 PySem.F.plainAttrs_list slot hty hm ho hbase hline) fun σ H Q ⟨F, ro, E, m, Qa, cm, ce, hf, p⟩ =>
  ⟨F, ro, E, m, _, cm, ce, hf, fun F1 ro1 H1 u v m1 g1 c1 i1 h1 => ⟨tyV_list c1 i1 h1.1, hs F1 ro1 H1 m1 u v [] [] Q Qa c1 i1 .nil h1.2 (p.at g1)⟩⟩
/-- a cell's list -/
theorem cell_of {K : PySem.W.Frag} {F H : Hp} {ro : List Addr} {m : Sto} (c : ConM K F ro H m) {k : Nat} {v : V} {l : List PyData} (h : IsU K F ro (.r k) v) (e : m[k]? = some (.lst l)) : ∃ a xs, v = .ref a ∧ ro[k]? = some a ∧ H a = some (.lst xs) ∧ IsDs K F xs l := by
  obtain ⟨a, h1, h2⟩ := h
  obtain ⟨_, xs, hx, hd⟩ : CellOk K F H a (.lst l) := c.cell k a _ h1 e
  exact ⟨a, xs, h2, h1, hx, hd⟩
/-- a cell's list replaced -/
theorem Post.put {K : PySem.W.Frag} {F H : Hp} {ro : List Addr} {m : Sto} {Qa : QA} {Q : VK} (p : Post K F ro H Qa Q) (c : ConM K F ro H m) {k : Nat} {a : Addr} {l l' : List PyData} {xs : List V} (h1 : ro[k]? = some a) (e : m[k]? = some (.lst l)) (hd : IsDs K F xs l') {d : PyData} {v : V} (hv : IsD K F v d) (q : Qa (.v d) (m.set k (.lst l'))) : Q v (upd H a (.lst xs)) := by
  obtain ⟨c1, g1⟩ := c.cellSet h1 e hd
  exact (p.at g1).god c1 (IsD.mono g1.ex hv) q
def aAppend : U → List U → Sto → QA → Prop := fun o us m Q => match o, us with
  | .r k, [.v d] => (match m[k]? with
    | some (.lst l) => l.length < sizeLine ∧ Q (.v .none) (m.set k (.lst (l ++ [d])))
    | _ => False)
  | _, _ => False
theorem sim_append {K : PySem.W.Frag} : SimM K rAppend aAppend := by
  intro F ro H m o x us vs Q Qa c io iu h p
  unfold aAppend at h
  split at h
  · split at h
    · rename_i l el
      obtain ⟨a, xs, rfl, h1, h2, hd⟩ := cell_of c io el
      obtain ⟨v, rfl, i1⟩ := iu1 iu
      exact ⟨a, xs, v, rfl, rfl, h2, by rw [hd.length]; exact h.1, p.put c h1 el (hd.append (.cons i1 .nil)) .non h.2⟩
    · exact h.elim
  · exact h.elim
/-- xs.pop(): the last one -/
def aPop : U → List U → Sto → QA → Prop := fun o us m Q => match o, us with
  | .r k, [] => (match m[k]? with
    | some (.lst l) => (match l[l.length - 1]? with
      | some d => Q (.v d) (m.set k (.lst l.dropLast))
      | none => False)
    | _ => False)
  | _, _ => False
theorem sim_pop {K : PySem.W.Frag} : SimM K rPop aPop := by
  intro F ro H m o x us vs Q Qa c io iu h p
  unfold aPop at h
  split at h
  · split at h
    · rename_i l el
      split at h
      · rename_i d ed
        obtain ⟨a, xs, rfl, h1, h2, hd⟩ := cell_of c io el
        cases iu
        obtain ⟨v, e1, e2⟩ := hd.get ed
        exact ⟨a, xs, v, rfl, rfl, h2, by rw [hd.length]; exact e1, p.put c h1 el hd.dropLast e2 h⟩
      · exact h.elim
    · exact h.elim
  · exact h.elim
/-- xs.pop(i), 0 ≤ i -/
def aPopAt : U → List U → Sto → QA → Prop := fun o us m Q => match o, us with
  | .r k, [.v (.int i)] => (match m[k]? with
    | some (.lst l) => 0 ≤ i ∧ i < 4611686018427387904 ∧ (match l[i.toNat]? with
      | some d => Q (.v d) (m.set k (.lst (l.eraseIdx i.toNat)))
      | none => False)
    | _ => False)
  | _, _ => False
theorem sim_popAt {K : PySem.W.Frag} : SimM K rPopAt aPopAt := by
  intro F ro H m o x us vs Q Qa c io iu h p
  unfold aPopAt at h
  split at h
  · split at h
    · rename_i l el
      obtain ⟨h0, h9, h⟩ := h
      split at h
      · rename_i d ed
        obtain ⟨a, xs, rfl, h1, h2, hd⟩ := cell_of c io el
        obtain ⟨v, rfl, i1⟩ := iu1 iu
        cases i1
        obtain ⟨v, e1, e2⟩ := hd.get ed
        have hlt := (List.getElem?_eq_some_iff.mp e1).1
        refine ⟨a, xs, _, _, v, rfl, rfl, h2, by omega, by omega, ?_, e1, p.put c h1 el (hd.eraseIdx _) e2 h⟩
        exact (ixN_seq (n := xs.length) (by unfold ixN; rw [if_pos h0, if_pos (by omega)])).1
      · exact h.elim
    · exact h.elim
  · exact h.elim
def aReverse : U → List U → Sto → QA → Prop := fun o us m Q => match o, us with
  | .r k, [] => (match m[k]? with
    | some (.lst l) => Q (.v .none) (m.set k (.lst l.reverse))
    | _ => False)
  | _, _ => False
theorem sim_reverse {K : PySem.W.Frag} : SimM K rReverse aReverse := by
  intro F ro H m o x us vs Q Qa c io iu h p
  unfold aReverse at h
  split at h
  · split at h
    · rename_i l el
      obtain ⟨a, xs, rfl, h1, h2, hd⟩ := cell_of c io el
      cases iu
      exact ⟨a, xs, rfl, rfl, h2, p.put c h1 el hd.reverse .non h⟩
    · exact h.elim
  · exact h.elim
def aClear : U → List U → Sto → QA → Prop := fun o us m Q => match o, us with
  | .r k, [] => (match m[k]? with
    | some (.lst l) => Q (.v .none) (m.set k (.lst []))
    | _ => False)
  | _, _ => False
theorem sim_clear {K : PySem.W.Frag} : SimM K rClear aClear := by
  intro F ro H m o x us vs Q Qa c io iu h p
  unfold aClear at h
  split at h
  · split at h
    · rename_i l el
      obtain ⟨a, xs, rfl, h1, h2, hd⟩ := cell_of c io el
      cases iu
      exact ⟨a, xs, rfl, rfl, h2, p.put c h1 el .nil .non h⟩
    · exact h.elim
  · exact h.elim
/-- xs[i] = e, xs a cell -/
def dSetIx (te to ti : AE) : AS := fun D E m => te E m fun u m1 => to E m1 fun o m2 => ti E m2 fun i m3 => match u, o, i with
  | .v d, .r k, .v (.int i) => (match m3[k]? with
    | some (.lst l) => (match ixN l.length i with
      | some j => D.nx E (m3.set k (.lst (l.set j d)))
      | none => False)
    | _ => False)
  | _, _, _ => False
theorem ds_setix {o i e : Expr} {fo fi fe : AE} {p2 pos : Pos} (he : DE X e fe) (ho : DE X o fo) (hi : DE X i fi) (ha : ∀ v, assign (.Subscript o i p2) X.env v = (do
      let ov ← holding [v] (eval o X.env)
      let iv ← holding [v, ov] (eval i X.env)
      standAt p2
      holding [v, ov, iv] (setItem ov iv v)
      release [v, ov, iv] []) := by intro _; rfl) (hs : swapsWithSole [.Subscript o i p2] e pos.line X.env = pure false := by rfl) (hw : swappedStores [.Subscript o i p2] e X.env = pure none := by rfl)
    (h1 : (assignEach [.Subscript o i p2] X.env).map (·.2) = [assign (.Subscript o i p2) X.env] := by rfl) : DS X (.Assign [.Subscript o i p2] e pos) (dSetIx fe fo fi) :=
  ps_imp (ps_asg he (pg_sub ho hi set_list ha) hs hw h1) fun D σ H ⟨F, ro, E, m, Da, c, ce, hf, p⟩ =>
    ⟨F, ro, E, m, _, c, ce, hf, fun F1 ro1 H1 u v m1 g1 c1 i1 h1 => ⟨F1, ro1, E, m1, _, c1, ce.mono g1, h1, fun F2 ro2 H2 o w m2 g2 c2 i2 h2 => ⟨F2, ro2, E, m2, _, c2, ce.mono (g1.trans g2), h2, fun F3 ro3 H3 i x m3 g3 c3 i3 h3 => by
      revert h3
      split
      · split
        · rename_i l el
          split
          · rename_i j ej
            intro h3
            obtain ⟨a, xs, rfl, q1, q2, hd⟩ := cell_of c3 (i2.mono g3) el
            cases i3
            have hv := i1.mono (g2.trans g3)
            obtain ⟨c4, g4⟩ := c3.cellSet q1 el (hd.set hv j)
            exact ⟨a, xs, _, j, rfl, rfl, q2, by rw [hd.length]; exact ej, p.nx _ _ _ σ E _ (g1.trans (g2.trans (g3.trans g4))) c4 (ce.mono (g1.trans (g2.trans (g3.trans g4)))) h3⟩
          · exact fun h => h.elim
        · exact fun h => h.elim
      · exact fun h => h.elim⟩⟩⟩
/-- x op= e -/
def dAug (i : Nat) (f : R2A) (t : AE) : AS := fun D E m => match E[i]? with
  | some (some u) => t E m fun w m1 => f u w m1 fun z m2 => D.nx (E.set i (some z)) m2
  | _ => False
theorem ds_aug (i : Nat) {x : Str} {e : Expr} {fe : AE} {op : Operator} {r : R2} {f : R2A} {pos pos' : Pos} (hN : X.N.Nodup) (ho : OpR X (inplaceOp op) r) (hs : Sim2 X.K r f) (he : DE X e fe) (hi : X.N[i]? = some x := by rfl) (hx : Loc X.env.scope x := by first | exact Or.inl rfl | exact Or.inr rfl)
    (hf : X.fn x = true ∨ X.env.scope.names.lookup x = some .local := by first | exact .inl rfl | exact .inr rfl | assumption) : DS X (.AugAssign (.Name x pos') op e pos) (dAug i f fe) :=
  ps_imp (ps_aug (ti := fun x y H Q => r x y H Q) hN hi hx he (fun pins s σ H x y v u Q I r1 r2 h => ho pins s σ H x y v u Q I r1 r2 h) hf) fun D σ H ⟨F, ro, E, m, Da, c, ce, hf, p⟩ => by
    unfold dAug at hf
    split at hf
    · rename_i u eu
      obtain ⟨v, h1, h2⟩ := ce.val i u eu
      exact ⟨v, h1, F, ro, E, m, _, c, ce, hf, fun F1 ro1 H1 w y m1 g1 c1 i1 q1 => hs F1 ro1 H1 m1 u w v y _ _ c1 (h2.mono g1) i1 q1 fun F2 ro2 H2 z x2 m2 g2 c2 i2 q2 => p.nx F2 ro2 H2 _ _ m2 (g1.trans g2) c2 ((ce.mono (g1.trans g2)).set i i2) q2⟩
    · exact hf.elim

/-! ### what a for walks -/
/-- a list (a cell may not change meanwhile), a tuple -/
def guardOf (m : Sto) : U → Sto → Prop
  | .r k => fun m' => m'[k]? = m[k]?
  | _ => fun _ => True
def sList (t : AE) : AI := fun E m R => t E m fun u m1 => match asL m1 u with
  | some l => R (l.map .v) (guardOf m1 u) m1
  | none => False
def sTup (t : AE) : AI := fun E m R => t E m fun u m1 => match u with
  | .v (.tuple l) => R (l.map .v) (fun _ => True) m1
  | _ => False
/-- a list at an address, while its guard holds -/
theorem list_at {K : PySem.W.Frag} {F H : Hp} {ro : List Addr} {m : Sto} (c : ConM K F ro H m) {u : U} {v : V} (iu : IsU K F ro u v) {l : List PyData} (e : asL m u = some l) :
    ∃ a, v = .ref a ∧ ∀ (F' : Hp) (ro' : List Addr) (H' : Hp) (m' : Sto), Gro F ro H F' ro' H' → ConM K F' ro' H' m' → guardOf m u m' → ∃ xs, Rd H' a (.lst xs) ∧ IsDs K F' xs l := by
  cases u with
  | v d =>
    cases d <;> simp [asL] at e
    subst e
    cases iu with
    | lst h1 h2 => exact ⟨_, rfl, fun F' ro' H' m' g c' _ => ⟨_, .inl (c'.ex _ _ (g.ex _ _ h1)), IsDs.mono g.ex h2⟩⟩
  | r k =>
    obtain ⟨a, h1, h2⟩ := iu
    refine ⟨a, h2, fun F' ro' H' m' g c' gd => ?_⟩
    have gd' : m'[k]? = m[k]? := gd
    simp only [asL] at e
    rw [← gd'] at e
    cases q : m'[k]? with
    | none => rw [q] at e; cases e
    | some x =>
      rw [q] at e
      cases x with
      | dead => cases e
      | dct l' => cases e
      | lst l' =>
        cases e
        obtain ⟨t, et, _⟩ := g.more
        obtain ⟨_, xs, hx, hd⟩ : CellOk K F' H' a (.lst l) := c'.cell k a _ (by rw [et, List.getElem?_append_left (List.getElem?_eq_some_iff.mp h1).1]; exact h1) q
        exact ⟨xs, .inl hx, hd⟩
  | s ns => simp [asL] at e
  | o t => simp [asL] at e
theorem di_list {tg e : Expr} {f : AE} (h : DE X e f) : DI X tg e (sList f) := pi_imp (pi_list h) fun σ H R ⟨F, ro, E, m, Ra, c, ce, hf, p⟩ =>
  ⟨F, ro, E, m, _, c, ce, hf, fun F1 ro1 H1 u v m1 g1 c1 i1 h1 => by
    revert h1
    split
    · rename_i l el
      intro h1
      obtain ⟨a, rfl, at_⟩ := list_at c1 i1 el
      have gd0 : guardOf m1 u m1 := by cases u <;> first | trivial | rfl
      obtain ⟨xs0, r0, d0⟩ := at_ F1 ro1 H1 m1 Gro.refl c1 gd0
      refine ⟨a, rfl, ⟨xs0, .inl r0⟩, p F1 ro1 H1 _ _ m1 _ g1 c1 ?_ h1⟩
      refine ⟨fun i F' ro' H' m' g c' gd hi => ?_, fun F' ro' H' m' g c' gd => ?_, fun i w F' ro' H' m' x H2 g c' gd hw hy => ?_⟩
      · obtain ⟨xs, r, d⟩ := at_ F' ro' H' m' g c' gd
        rw [List.length_map] at hi
        obtain ⟨v, e1, _⟩ := d.get (List.getElem?_eq_getElem hi)
        exact ⟨xs, v, .inl r, e1⟩
      · obtain ⟨xs, r, d⟩ := at_ F' ro' H' m' g c' gd
        exact ⟨xs, .inl r, by rw [d.length, List.length_map]; exact Nat.le_refl _⟩
      · obtain ⟨xs, r, d⟩ := at_ F' ro' H' m' g c' gd
        obtain ⟨rfl, hy⟩ := hy
        rw [List.getElem?_map] at hw
        obtain ⟨dd, e1, e2⟩ := Option.map_eq_some_iff.mp hw
        subst e2
        obtain ⟨v, e3, e4⟩ := d.get e1
        have ex := hy xs (.inl r)
        rw [e3] at ex
        cases ex
        exact ⟨F', c', Gro.refl, e4⟩
    · exact fun h => h.elim⟩
theorem di_tup {tg e : Expr} {f : AE} (h : DE X e f) : DI X tg e (sTup f) := pi_imp (pi_tup h) fun σ H R ⟨F, ro, E, m, Ra, c, ce, hf, p⟩ =>
  ⟨F, ro, E, m, _, c, ce, hf, fun F1 ro1 H1 u v m1 g1 c1 i1 h1 => by
    revert h1
    split
    · rename_i l
      intro h1
      cases i1 with
      | @tup a xs _ r0 d0 =>
      refine ⟨a, rfl, ⟨xs, .inl (rd_mono c1.ex r0)⟩, p F1 ro1 H1 _ _ m1 _ g1 c1 ?_ h1⟩
      refine ⟨fun i F' ro' H' m' g c' gd hi => ?_, fun F' ro' H' m' g c' gd => ?_, fun i w F' ro' H' m' x H2 g c' gd hw hy => ?_⟩
      · rw [List.length_map] at hi
        obtain ⟨v, e1, _⟩ := d0.get (List.getElem?_eq_getElem hi)
        exact ⟨xs, v, .inl (rd_mono c'.ex (rd_mono g.ex r0)), e1⟩
      · exact ⟨xs, .inl (rd_mono c'.ex (rd_mono g.ex r0)), by rw [d0.length, List.length_map]; exact Nat.le_refl _⟩
      · obtain ⟨rfl, hy⟩ := hy
        rw [List.getElem?_map] at hw
        obtain ⟨dd, e1, e2⟩ := Option.map_eq_some_iff.mp hw
        subst e2
        obtain ⟨v, e3, e4⟩ := d0.get e1
        have ex := hy xs (.inl (rd_mono c'.ex (rd_mono g.ex r0)))
        rw [e3] at ex
        cases ex
        exact ⟨F', c', Gro.refl, IsD.mono g.ex e4⟩
    · exact fun h => h.elim⟩
/-- range(n), range(a, b) -/
def rngU (lo : Int) (n : Nat) : List U := (List.range n).map fun (i : Nat) => U.v (.int (lo + (i : Int)))
theorem rng_ok {K : PySem.W.Frag} {F H : Hp} {ro : List Addr} (lo : Int) (n : Nat) : ItOk K F ro H (Itr lo n) (rngU lo n) fun _ => True := by
  have hl : (rngU lo n).length = n := by simp [rngU]
  refine ⟨fun i F' ro' H' m' g c' gd hi => ?_, fun F' ro' H' m' g c' gd => ?_, fun i w F' ro' H' m' x H2 g c' gd hw hy => ?_⟩
  · show i < n
    omega
  · show n ≤ _
    omega
  · obtain ⟨rfl, rfl⟩ := hy
    unfold rngU at hw
    rw [List.getElem?_map] at hw
    obtain ⟨dd, e1, e2⟩ := Option.map_eq_some_iff.mp hw
    obtain ⟨_, e3⟩ := List.getElem?_eq_some_iff.mp e1
    simp at e3
    subst e3 e2
    exact ⟨F', c', Gro.refl, .int _⟩
def sRng1 (t : AA) : AI := fun E m R => t E m fun us m1 => match us with
  | [.v (.int j)] => -4611686018427387904 ≤ j ∧ j < 4611686018427387904 ∧ R (rngU 0 j.toNat) (fun _ => True) m1
  | _ => False
def sRng2 (t : AA) : AI := fun E m R => t E m fun us m1 => match us with
  | [.v (.int i), .v (.int j)] => (-4611686018427387904 ≤ i ∧ i < 4611686018427387904 ∧ -4611686018427387904 ≤ j ∧ j < 4611686018427387904) ∧ R (rngU i (j - i).toNat) (fun _ => True) m1
  | _ => False
theorem di_rng1 {tg a : Expr} {g : AA} {p pos : Pos} (hm : X.mg "range" = none) (ha : DA X [a] g) (hg : Gl X "range" := by rfl) (hs : starEach [a] X.env = [(false, eval a X.env)] := by rfl) : DI X tg (.Call (.Name "range" p) [a] [] pos) (sRng1 g) :=
  pi_imp (pi_range1 hg hm ha hs) fun σ H R ⟨F, ro, E, m, Ra, c, ce, hf, p⟩ =>
    ⟨F, ro, E, m, _, c, ce, hf, fun F1 ro1 H1 us vs m1 g1 c1 i1 h1 => by
      revert h1
      split
      · intro h1
        obtain ⟨v, rfl, i2⟩ := iu1 i1
        cases i2
        exact ⟨_, rfl, by omega, by omega, p F1 ro1 H1 _ _ m1 _ g1 c1 (rng_ok 0 _) h1.2.2⟩
      · exact fun h => h.elim⟩
theorem di_rng2 {tg a b : Expr} {g : AA} {p pos : Pos} (hm : X.mg "range" = none) (ha : DA X [a, b] g) (hg : Gl X "range" := by rfl) (hs : starEach [a, b] X.env = [(false, eval a X.env), (false, eval b X.env)] := by rfl) (hs2 : starEach [b] X.env = [(false, eval b X.env)] := by rfl) :
    DI X tg (.Call (.Name "range" p) [a, b] [] pos) (sRng2 g) :=
  pi_imp (pi_range2 hg hm ha hs hs2) fun σ H R ⟨F, ro, E, m, Ra, c, ce, hf, p⟩ =>
    ⟨F, ro, E, m, _, c, ce, hf, fun F1 ro1 H1 us vs m1 g1 c1 i1 h1 => by
      revert h1
      split
      · intro h1
        obtain ⟨v, w, rfl, i2, i3⟩ := iu2 i1
        cases i2; cases i3
        exact ⟨_, _, rfl, by omega, p F1 ro1 H1 _ _ m1 _ g1 c1 (rng_ok _ _) h1.2⟩
      · exact fun h => h.elim⟩
/-- enumerate(xs) -/
def enumU (l : List PyData) : List U := (l.mapIdx fun i d => U.v (.tuple [.int (i : Int), d]))
def sEnum (t : AA) : AI := fun E m R => t E m fun us m1 => match us with
  | [u] => (match asL m1 u with
    | some l => R (enumU l) (guardOf m1 u) m1
    | none => False)
  | _ => False
theorem pair_known {K : PySem.W.Frag} {F H : Hp} {ro : List Addr} {m : Sto} (c : ConM K F ro H m) {T : Addr} (hT : H T = none) {xs : List V} {l : List PyData} (hd : IsDs K F xs l) : ∃ F2, ConM K F2 ro (upd H T (.tup xs)) m ∧ Gro F ro H F2 ro (upd H T (.tup xs)) ∧ IsD K F2 (.ref T) (.tuple l) := by
  obtain ⟨c1, g1⟩ := c.known hT (.tup xs)
  exact ⟨_, c1, g1, .tup (.inl upd_same) (IsDs.mono g1.ex hd)⟩
theorem di_enum {e : Expr} {g : AA} {p pos tpos : Pos} {elts : List Expr} {kk : Nat} (hm : X.mg "enumerate" = none) (ha : DA X [e] g) (hg : Gl X "enumerate" := by rfl) (hs : starEach [e] X.env = [(false, eval e X.env)] := by rfl) :
    DI X (.Tuple elts kk tpos) (.Call (.Name "enumerate" p) [e] [] pos) (sEnum g) :=
  pi_imp (pi_enum hg hm ha hs) fun σ H R ⟨F, ro, E, m, Ra, c, ce, hf, p⟩ =>
    ⟨F, ro, E, m, _, c, ce, hf, fun F1 ro1 H1 us vs m1 g1 c1 i1 h1 => by
      revert h1
      split
      · rename_i u
        split
        · rename_i l el
          intro h1
          obtain ⟨v, rfl, i2⟩ := iu1 i1
          obtain ⟨a, rfl, at_⟩ := list_at c1 i2 el
          have gd0 : guardOf m1 u m1 := by cases u <;> first | trivial | rfl
          obtain ⟨xs0, r0, d0⟩ := at_ F1 ro1 H1 m1 Gro.refl c1 gd0
          refine ⟨a, xs0, rfl, .inl r0, p F1 ro1 H1 _ _ m1 _ g1 c1 ?_ h1⟩
          have hlen : (enumU l).length = l.length := by simp [enumU]
          refine ⟨fun i F' ro' H' m' g c' gd hi => ?_, fun F' ro' H' m' g c' gd => ?_, fun i w F' ro' H' m' x H2 g c' gd hw hy => ?_⟩
          · obtain ⟨xs, r, d⟩ := at_ F' ro' H' m' g c' gd
            rw [hlen] at hi
            obtain ⟨v, e1, _⟩ := d.get (List.getElem?_eq_getElem hi)
            exact ⟨xs, v, .inl r, e1⟩
          · obtain ⟨xs, r, d⟩ := at_ F' ro' H' m' g c' gd
            exact ⟨xs, .inl r, by rw [d.length, hlen]; exact Nat.le_refl _⟩
          · obtain ⟨xs, r, d⟩ := at_ F' ro' H' m' g c' gd
            obtain ⟨T, y, rfl, hT, rfl, hy⟩ := hy
            unfold enumU at hw
            rw [List.getElem?_mapIdx] at hw
            obtain ⟨dd, e1, e2⟩ := Option.map_eq_some_iff.mp hw
            subst e2
            obtain ⟨v, e3, e4⟩ := d.get e1
            have ex := hy xs (.inl r)
            rw [e3] at ex
            cases ex
            exact pair_known c' hT (.cons (.int _) (.cons e4 .nil))
        · exact fun h => h.elim
      · exact fun h => h.elim⟩
/-- zip(xs, ys) -/
def zipU (l l' : List PyData) : List U := (l.zip l').map fun p => U.v (.tuple [p.1, p.2])
def sZip (t : AA) : AI := fun E m R => t E m fun us m1 => match us with
  | [u, w] => (match asL m1 u, asL m1 w with
    | some l, some l' => R (zipU l l') (fun m' => guardOf m1 u m' ∧ guardOf m1 w m') m1
    | _, _ => False)
  | _ => False
theorem di_zip {e e2 : Expr} {g : AA} {p pos tpos : Pos} {elts : List Expr} {kk : Nat} (hm : X.mg "zip" = none) (ha : DA X [e, e2] g) (hg : Gl X "zip" := by rfl)
    (hs : starEach [e, e2] X.env = (false, eval e X.env) :: starEach [e2] X.env := by rfl) (hpl : (backTo pos (starEach [e2] X.env)).any (·.1) = false := by rfl) :
    DI X (.Tuple elts kk tpos) (.Call (.Name "zip" p) [e, e2] [] pos) (sZip g) :=
  pi_imp (pi_zip hg hm ha hs hpl) fun σ H R ⟨F, ro, E, m, Ra, c, ce, hf, p⟩ =>
    ⟨F, ro, E, m, _, c, ce, hf, fun F1 ro1 H1 us vs m1 g1 c1 i1 h1 => by
      revert h1
      split
      · rename_i u w
        split
        · rename_i l l' el el'
          intro h1
          obtain ⟨v, x, rfl, i2, i3⟩ := iu2 i1
          obtain ⟨a, rfl, at_⟩ := list_at c1 i2 el
          obtain ⟨b, rfl, bt_⟩ := list_at c1 i3 el'
          have gd0 : guardOf m1 u m1 := by cases u <;> first | trivial | rfl
          have gd1 : guardOf m1 w m1 := by cases w <;> first | trivial | rfl
          obtain ⟨xs0, r0, d0⟩ := at_ F1 ro1 H1 m1 Gro.refl c1 gd0
          obtain ⟨ys0, r1, d1⟩ := bt_ F1 ro1 H1 m1 Gro.refl c1 gd1
          refine ⟨a, b, xs0, ys0, rfl, .inl r0, .inl r1, p F1 ro1 H1 _ _ m1 _ g1 c1 ?_ h1⟩
          have hlen : (zipU l l').length = min l.length l'.length := by simp [zipU]
          refine ⟨fun i F' ro' H' m' g c' gd hi => ?_, fun F' ro' H' m' g c' gd => ?_, fun i w F' ro' H' m' x H2 g c' gd hw hy => ?_⟩
          · obtain ⟨xs, r, d⟩ := at_ F' ro' H' m' g c' gd.1
            obtain ⟨ys, r', d'⟩ := bt_ F' ro' H' m' g c' gd.2
            rw [hlen] at hi
            have q1 : i < l.length := by omega
            have q2 : i < l'.length := by omega
            obtain ⟨v, e1, _⟩ := d.get (List.getElem?_eq_getElem q1)
            obtain ⟨v', e1', _⟩ := d'.get (List.getElem?_eq_getElem q2)
            exact ⟨xs, ys, v, v', .inl r, .inl r', e1, e1'⟩
          · obtain ⟨xs, r, d⟩ := at_ F' ro' H' m' g c' gd.1
            obtain ⟨ys, r', d'⟩ := bt_ F' ro' H' m' g c' gd.2
            refine ⟨xs, ys, .inl r, .inl r', ?_⟩
            have q1 := d.length
            have q2 := d'.length
            omega
          · obtain ⟨xs, r, d⟩ := at_ F' ro' H' m' g c' gd.1
            obtain ⟨ys, r', d'⟩ := bt_ F' ro' H' m' g c' gd.2
            obtain ⟨T, y, y', rfl, hT, rfl, hy, hy'⟩ := hy
            unfold zipU at hw
            rw [List.getElem?_map] at hw
            obtain ⟨dd, e1, e2⟩ := Option.map_eq_some_iff.mp hw
            subst e2
            obtain ⟨e1, e1'⟩ := List.getElem?_zip_eq_some.mp e1
            obtain ⟨v, e3, e4⟩ := d.get e1
            obtain ⟨v', e3', e4'⟩ := d'.get e1'
            have ex := hy xs (.inl r)
            rw [e3] at ex
            cases ex
            have ex' := hy' ys (.inl r')
            rw [e3'] at ex'
            cases ex'
            exact pair_known c' hT (.cons e4 (.cons e4' .nil))
        · exact fun h => h.elim
      · exact fun h => h.elim⟩
/-- [a, b, ..][i]: one of them, whatever it is -/
def dPick (ta : AA) (ti : AE) : AE := fun E m Q => ta E m fun us m1 => us.length ≤ 1000 ∧ ti E m1 fun i m2 => match i with
  | .v (.int i) => (match atI us i with
    | some u => Q u m2
    | none => False)
  | _ => False
theorem IsUs.get {K : PySem.W.Frag} {F : Hp} {ro : List Addr} : ∀ {us : List U} {vs : List V} {i : Nat} {u : U}, IsUs K F ro us vs → us[i]? = some u → ∃ v, vs[i]? = some v ∧ IsU K F ro u v
  | _, _, _, _, .nil, e => by simp at e
  | _, _, 0, _, .cons a _, e => by simp at e; subst e; exact ⟨_, rfl, a⟩
  | _, _, i + 1, u, .cons _ b, e => by
    obtain ⟨v, q1, q2⟩ := IsUs.get (i := i) (u := u) b (by simpa using e)
    exact ⟨v, by simpa using q1, q2⟩
theorem de_pick {es : List Expr} {b : Expr} {g : AA} {f : AE} {p1 pos : Pos} (ha : DA X es g) (hb : DE X b f) (hs : PlainIx b := by intro _ _; rfl) : DE X (.Subscript (.List es p1) b pos) (dPick g f) :=
  pe_imp (pe_ix ix_list (pe_lst ha) hb hs) fun σ H Q ⟨F, ro, E, m, Qa, cm, ce, hf, p⟩ =>
    ⟨F, ro, E, m, _, cm, ce, hf, fun F1 ro1 H1 us vs m1 g1 c1 i1 h1 => by
      have hlen := i1.length
      obtain ⟨hz, h1⟩ := h1
      refine ⟨by rw [sizeLine_eq]; omega, fun b hb => ?_⟩
      obtain ⟨c2, g2⟩ := c1.known hb (.lst vs)
      refine ⟨_, ro1, E, m1, _, c2, (ce.mono g1).mono g2, h1, fun F3 ro3 H3 w x m3 g3 c3 i3 h3 => ?_⟩
      revert h3
      split
      · split
        · rename_i i _ u eu
          intro h3
          cases i3
          unfold atI at eu
          cases q : ixN us.length i with
          | none => rw [q] at eu; cases eu
          | some j =>
            rw [q] at eu
            obtain ⟨v, e1, e2⟩ := IsUs.get i1 eu
            have g13 := g2.trans g3
            refine ⟨b, vs, i, v, rfl, rfl, .inl (.inl (c3.ex _ _ (g3.ex _ _ upd_same))), ?_, (p.at (g1.trans g13)).go c3 (e2.mono g13) h3⟩
            unfold atI
            rw [← hlen, q]
            exact e1
        · exact fun h => h.elim
      · exact fun h => h.elim⟩
end
end Z
/-! Z6: defs as they stand behind the top; the end of a law. -/
namespace Z
open PySem PySem.Spec PyProof.Rows L2

/-- a def of the text: where it stands, how it is called -/
structure Dfn (K : PySem.W.Frag) (mg : Str → Option Value) (x : Str) (st : Stmt) (ps : List Str) : Prop where
  ex : ∃ f fd, Fun K x x st f fd ∧ mg x = some (.ref f) ∧ Binds K fd ps []
/-- a def that keeps a promise -/
structure Cal (P : Program) (w : World) (K : PySem.W.Frag) (mg : Str → Option Value) (base : Heap) (k : Nat) (x : Str) (ps : List Str) (a : ASp) : Prop where
  ex : ∃ f fd, FnG P w K mg base k f fd ps a ∧ mg x = some (.ref f) ∧ PySem.W.keepIn K (.ref f) = true ∧ Binds K fd ps []
section
variable {P : Program} {w : World} {K : PySem.W.Frag} {mg : Str → Option Value} {base : Heap} {k : Nat} {x : Str} {st : Stmt} {ps : List Str} {a a' : ASp}
theorem Cal.imp (c : Cal P w K mg base k x ps a) (h : ∀ us m Q, a' us m Q → a us m Q) : Cal P w K mg base k x ps a' := by
  obtain ⟨f, fd, F, r⟩ := c.ex
  exact ⟨f, fd, F.imp h, r⟩
theorem Cal.mk' {N : List Str} {g : AS} (d : Dfn K mg x st ps) (S : FnScope N ps (defScope st)) (len : ∀ us m Q, a us m Q → us.length = ps.length)
    (body : ∀ (f : Addr) (cdv : Value) (A : Around) (outer : List Env) (s : Shared) (H : Hp) (E : XK), Room k (A.deeper (envOfC x (defScope st) s.heap.objs.size f cdv)) → (A.deeper (envOfC x (defScope st) s.heap.objs.size f cdv)).guards = some [] →
      DSs (cxOf CX0 P w K mg base N x (defScope st) f cdv A outer s H E).nox (defBody st) g)
    (sem : ∀ us m Q, a us m Q → g (endsD m.length Q) (startU N.length us) m) : Cal P w K mg base (k + 1) x ps a := by
  obtain ⟨f, fd, F, hm, hb⟩ := d.ex
  exact ⟨f, fd, FnG.of F S len (body f) sem, hm, F.kp, hb⟩
/-- a def of which nothing is asked -/
theorem cal_none (d : Dfn K mg x st ps) : Cal P w K mg base k x ps (fun _ _ _ => False) := by
  obtain ⟨f, fd, F, hm, hb⟩ := d.ex
  exact ⟨f, fd, ⟨fun _ _ _ h => h.elim, fun _ _ _ _ _ _ _ _ _ _ _ _ _ _ ⟨_, _, _, _, _, _, _, ha, _⟩ => ha.elim⟩, hm, F.kp, hb⟩
theorem Dfn.mk' {h : Heap} {f : Addr} {od an : Option Addr} {sl : Array (Option Value)} {oc kV dc pm cd ct : Value} (X : K.In h) (G : h.Ns mainGlobals mg)
    (a1 : PySem.W.nsIn K mainGlobals x = some (some (.ref f))) (l1 : K.lookup f = some ⟨oc, od, .func (PySem.W.fnOf x x (defArgs st) (defBody st) (defScope st) .none kV dc pm an cd ct), sl⟩) (c1 : PySem.W.codeIn K cd x = true) (k1 : PySem.W.keepIn K (.ref f) = true)
    (hb : ∀ (kV doc pm : Value) (an : Option Addr) (cdv ct : Value) (us : List Value), us.length = ps.length → bindArgs (PySem.W.fnOf x x (defArgs st) (defBody st) (defScope st) .none kV doc pm an cdv ct) ⟨us, []⟩ = pure (ps.zip us)) : Dfn K mg x st ps :=
  ⟨f, _, fun_mk l1 c1 k1, PySem.W.mg_of X G a1, (fun_mk l1 c1 k1).binds hb⟩
end
section
variable {X : Cx} {k j : Nat} {ps : List Str} {a : ASp} {x : Str} {p pos : Pos} {e : Expr} {es : List Expr} {g : AA}
theorem de_calC (c : Cal X.prog X.w X.K X.mg X.base k x ps a) (hr : Room j X.A) (hgd : X.A.guards = some []) (ha : DA X (e :: es) g) (hk : k ≤ j := by decide) (hg : Gl X x := by rfl)
    (hdb : (x == ("__debug__" : Str)) = false := by decide) (he : starEach (e :: es) X.env = (false, eval e X.env) :: starEach es X.env := by rfl) (hpl : (backTo pos (starEach es X.env)).any (·.1) = false := by rfl) :
    DE X (.Call (.Name x p) (e :: es) [] pos) (dCall a g) := by
  obtain ⟨f, fd, F, hm, kp, hb⟩ := c.ex
  exact de_call F (hr.mono hk) hgd hm kp hb ha hg hdb he hpl
theorem de_calC0 (c : Cal X.prog X.w X.K X.mg X.base k x ps a) (hr : Room j X.A) (hgd : X.A.guards = some []) (hk : k ≤ j := by decide) (hg : Gl X x := by rfl) (hdb : (x == ("__debug__" : Str)) = false := by decide) : DE X (.Call (.Name x p) [] [] pos) (dCall a dNil) := by
  obtain ⟨f, fd, F, hm, kp, hb⟩ := c.ex
  exact de_call0 F (hr.mono hk) hgd hm kp hb hg hdb
end

/-! ### the law's own promise and its end -/
def spLaw : ASp := fun us m Q => ∃ ns : List Int, us = [.s ns] ∧ ns.length ≤ 63 ∧ (∀ z ∈ ns, Builtin.Int.intBits z ≤ 1048576) ∧ m = [] ∧ Q (.v (.bool true)) []
/-- the call of a law's def, from the heap behind the top: the script is tracked unless it is one of the top's own objects -/
theorem lawG {P : Program} {w : World} {K : PySem.W.Frag} {mg mb : Str → Option Value} {k : Nat} {fa a : Addr} {y x : Str} {s1 : Shared} {vs : List Value} {ns : List Int}
    (KX : K.In s1.heap) (hns : s1.heap.Ns mainGlobals mg) (hb : s1.heap.Ns builtinsNs mb) (hbb : ∀ x : Str, x ≠ "__name__" → mb x = bootBuiltins x) (hlim : s1.heap.NoLimit) (hg : s1.gens = #[])
    (ha : s1.heap.get? a = some { cls := .type "list", data := .seq vs.toArray }) (hi : IntsAre vs ns) (hl : ns.length ≤ 63) (hbits : ∀ z ∈ ns, Builtin.Int.intBits z ≤ 1048576) (hr : Room k callerA)
    (hmf : mg y = some (.ref fa)) (FF : ∀ base : Heap, K.In base → base.Ns mainGlobals mg → Cal P w K mg base k y [x] spLaw) :
    codeAny (model P w) callerA (.call (.ref fa) ⟨[.ref a], []⟩) (fun r s' => r = .ok (.ret (.bool true)) ∧ OldK s1.heap s'.heap ∧ s'.os = s1.os ∧ AllBare s'.gens) s1 := by
  have rv := vals_ints hi
  have lenV := hi.length
  have main : ∀ H : Hp, (∀ b u, H b = some u → b = a ∧ K.lookup a = none ∧ u = .frz { cls := .type "list", data := .seq vs.toArray } (.lst (ns.map V.int))) → SqL K H a (ns.map V.int) →
      codeAny (model P w) callerA (.call (.ref fa) ⟨[.ref a], []⟩) (fun r s' => r = .ok (.ret (.bool true)) ∧ OldK s1.heap s'.heap ∧ s'.os = s1.os ∧ AllBare s'.gens) s1 := by
    intro H only sq
    have hok : HOk P w H s1.heap := fun b u q => by
      obtain ⟨rfl, _, rfl⟩ := only b u q
      exact ⟨ha, by rw [List.length_map, sizeLine_eq]; omega, vs, _, rv, ha⟩
    have nd : ∀ {b : Addr} {o : Obj} {es : Array DictEntry} {ep : Nat}, s1.heap.get? b = some o → o.data = .dict es ep → H b = none := fun {b o es ep} q d => by
      cases z : H b with
      | none => rfl
      | some u =>
        obtain ⟨rfl, _, _⟩ := only b u z
        rw [ha] at q
        cases q
        cases d
    have tr : ∀ {b : Addr} {m : Str → Option Value}, s1.heap.Ns b m → (hidT s1.heap H).Ns b m := fun {b m} ⟨o, es, ep, q, d, r⟩ => ⟨o, es, ep, hidT_get q (nd q d), d, r⟩
    have inK : K.In (hidT s1.heap H) := fun b o q => hidT_get (KX b o q) (by
      cases z : H b with
      | none => rfl
      | some u =>
        obtain ⟨rfl, z2, _⟩ := only b u z
        rw [z2] at q
        cases q)
    have md : Mod K mg (hidT s1.heap H) := ⟨inK, tr hns, ⟨mb, tr hb, hbb⟩, let ⟨mc, q1, q2⟩ := hlim; ⟨mc, tr q1, q2⟩⟩
    have env : Env0 P w K mg (hidT s1.heap H) callerA [] s1 H := ⟨rfl, md, fun b o q => of_hidT q, Nat.le_of_eq (hidT_size _ _), trivial, fun b z => (List.not_mem_nil z).elim, hok, .of_eq hg⟩
    have sp : cSp K spLaw [.ref a] H (fun v _ => v = .bl true) (fun _ _ _ => False) := by
      refine ⟨H, [], [], [.s ns], fun u m => u = .v (.bool true), ⟨Same.refl H, rfl, List.nodup_nil, fun k a c q => by simp at q⟩, .cons ⟨a, rfl, sq⟩ .nil, ⟨ns, rfl, hl, hbits, rfl, rfl⟩, ?_⟩
      intro F' ro' H' u v m' _ _ iu q
      subst q
      cases iu
      rfl
    obtain ⟨f, fd, F, hm, kp, hbind⟩ := (FF _ inK (tr hns)).ex
    have ef := hmf.symm.trans hm
    cases ef
    refine codeAny_mono (F.run callerA [] s1 H ⟨[.ref a], []⟩ [.ref a] [.ref a] _ _ hr rfl env (hbind s1 [.ref a] KX rfl) (.cons rfl .nil) sp) fun r s' h => ?_
    cases r with
    | error e => exact False.elim h
    | ok fl =>
      cases fl with
      | next => exact False.elim h
      | brk => exact False.elim h
      | cont => exact False.elim h
      | ret u =>
        obtain ⟨v, H', os, bare, un, hok', r', q⟩ := h
        have qv : v = .bl true := q
        rw [qv] at r'
        obtain rfl : u = Value.bool true := r'
        refine ⟨rfl, OldK.of_keep fun b o q => ?_, os, bare⟩
        cases z : H b with
        | none => exact un.keep b o q z (fun z => (List.not_mem_nil z).elim) (List.not_mem_nil)
        | some u =>
          obtain ⟨rfl, _, rfl⟩ := only b u z
          obtain ⟨y1, _⟩ := hok' b _ (un.frzs b _ _ z)
          rw [ha] at q
          cases q
          exact y1
  cases hk : K.lookup a with
  | some o =>
    have q := KX a o hk
    rw [ha] at q
    cases q
    exact main (fun _ => none) (fun b u z => nomatch z) (.inr ⟨_, vs.toArray, _, hk, rfl, rfl, rfl, by rw [List.size_toArray, lenV, sizeLine_eq]; omega, by simpa using rv⟩)
  | none =>
    refine main (fun b => if b = a then some (.frz { cls := .type "list", data := .seq vs.toArray } (.lst (ns.map V.int))) else none) (fun b u z => ?_) (.inl (.inr ⟨_, if_pos rfl⟩))
    have z' : (if b = a then some (HO.frz { cls := .type "list", data := .seq vs.toArray } (.lst (ns.map V.int))) else none) = some u := z
    split at z'
    · rename_i e
      cases z'
      exact ⟨e, hk, rfl⟩
    · cases z'
theorem walkG {l : PySem.W.OpenLaw} {k : Nat} {q : Program} {loose : List Str} {XP : (Str → Option Value) → Heap → Prop} {YP : World → Heap → Prop} {d : DefRec} {K : Params → PySem.W.Frag} {x : Str}
    (hn : l.most = some 63) (hdf : d.params.defaults = []) (hr : Room k callerA) (hY : ∀ (w : World) (h : Heap), YP w h → (K w.params).In h)
    (FF : ∀ (w : World) (mg : Str → Option Value) (h : Heap), (K w.params).In h → h.Ns mainGlobals mg → ∀ base : Heap, (K w.params).In base → base.Ns mainGlobals mg → Cal l.prog w (K w.params) mg base k d.name [x] spLaw) :
    PySem.W.WalkO q loose XP YP l.row.toRowW d [] (fun f vs => PySem.call f vs) := by
  refine Att.attach_callB hn hdf fun w s0 s1 mg mb fa o pm cd doc a vs ns G Y ho hd hcd hmg hobj hints hlen hbits hg => ?_
  exact lawG (hY w _ Y) G.T.g G.T.b G.T.builtins G.T.nolimit hg hobj hints hlen hbits hr hmg (FF w mg _ (hY w _ Y) G.T.g)

/-! ### the built-ins by their names -/
theorem bt_len : bootBuiltins "len" = some (.builtin "len") := by decide +kernel
theorem bt_max : bootBuiltins "max" = some (.builtin "max") := by decide +kernel
theorem bt_min : bootBuiltins "min" = some (.builtin "min") := by decide +kernel
theorem bt_abs : bootBuiltins "abs" = some (.builtin "abs") := by decide +kernel
theorem bt_sum : bootBuiltins "sum" = some (.builtin "sum") := by decide +kernel
theorem bt_all : bootBuiltins "all" = some (.builtin "all") := by decide +kernel
theorem bt_any : bootBuiltins "any" = some (.builtin "any") := by decide +kernel
theorem bt_sorted : bootBuiltins "sorted" = some (.builtin "sorted") := by decide +kernel
theorem bt_repr : bootBuiltins "repr" = some (.builtin "repr") := by decide +kernel
theorem bt_isinstance : bootBuiltins "isinstance" = some (.builtin "isinstance") := by decide +kernel
theorem bt_list : bootBuiltins "list" = some (.type "list") := by decide +kernel
theorem bt_tuple : bootBuiltins "tuple" = some (.type "tuple") := by decide +kernel
theorem bt_int : bootBuiltins "int" = some (.type "int") := by decide +kernel
theorem bt_str : bootBuiltins "str" = some (.type "str") := by decide +kernel
theorem bt_bool : bootBuiltins "bool" = some (.type "bool") := by decide +kernel
theorem bt_dict : bootBuiltins "dict" = some (.type "dict") := by decide +kernel
theorem bt_set : bootBuiltins "set" = some (.type "set") := by decide +kernel
theorem bt_range : bootBuiltins "range" = some (.type "range") := by decide +kernel
theorem bt_enumerate : bootBuiltins "enumerate" = some (.type "enumerate") := by decide +kernel
theorem bt_zip : bootBuiltins "zip" = some (.type "zip") := by decide +kernel
theorem u66 {A : Around} {k : Nat} (h : Room k A) : A.units + 66 < cLine := by
  have := h.un
  omega
end Z
/-! Y1: more constructs: dict displays of constants, list(range(..)), extend, index, count. -/
namespace Z
open PySem PySem.Spec PyProof.Rows L2
section
variable {X : Cx} {pos : Pos}
theorem Post.newD {K : PySem.W.Frag} {F H : Hp} {ro : List Addr} {m : Sto} {Qa : QA} {Q : VK} (p : Post K F ro H Qa Q) (c : ConM K F ro H m) {kvs : List (Key × V)} {l : List (PyData × PyData)} (h : IsDk K F kvs l) (q : Qa (.v (.dict l)) m) : ∀ b, H b = none → Q (.ref b) (upd H b (.dK kvs)) := fun b hb => by
  obtain ⟨c1, g1⟩ := c.known hb (.dK kvs)
  exact (p.at g1).god c1 (IsD.dct upd_same (IsDk.mono g1.ex h)) q
theorem de_dict0 : DE X (.Dict [] [] pos) (dC (.dict [])) := pe_imp pe_dnewK fun σ H Q ⟨F, ro, E, m, Qa, cm, ce, hf, p⟩ => p.newD cm .nil hf
theorem de_dictI {k v : Int} {x1 x2 : Nat} {p1 p2 : Pos} : DE X (.Dict [some (.Constant (.int k) x1 p1)] [.Constant (.int v) x2 p2] pos) (dC (.dict [(.int k, .int v)])) :=
  pe_imp (pe_disp (pps_cons pe_int pe_int pps_nil) rfl rfl (by simp) (by simp)) fun σ H Q ⟨F, ro, E, m, Qa, cm, ce, hf, p⟩ => fun b hb => by
    refine ⟨upd_same, [(.inl k, .int v)], rfl, by simp, ?_⟩
    rw [upd_upd]
    exact p.newD cm (l := [(.int k, .int v)]) (.cons (k := .inl k) (.int v) .nil) hf b hb
theorem de_dictS {k : Str} {v : Int} {x1 x2 : Nat} {p1 p2 : Pos} : DE X (.Dict [some (.Constant (.str k) x1 p1)] [.Constant (.int v) x2 p2] pos) (dC (.dict [(.str k, .int v)])) :=
  pe_imp (pe_disp (pps_cons pe_str pe_int pps_nil) rfl rfl (by simp) (by simp)) fun σ H Q ⟨F, ro, E, m, Qa, cm, ce, hf, p⟩ => fun b hb => by
    refine ⟨upd_same, [(.inr k, .int v)], rfl, by simp, ?_⟩
    rw [upd_upd]
    exact p.newD cm (l := [(.str k, .int v)]) (.cons (k := .inr k) (.int v) .nil) hf b hb
/-! ### list(range(..)) -/
def rngD (a : Int) (n : Nat) : List PyData := (List.range n).map fun (i : Nat) => PyData.int (a + (i : Int))
theorem rng_is {K : PySem.W.Frag} {F : Hp} (a b : Int) : IsDs K F (rgV a b) (rngD a (b - a).toNat) := by
  unfold rgV rngD
  generalize (b - a).toNat = n
  induction (List.range n) with
  | nil => exact .nil
  | cons i r ih => exact .cons (.int _) ih
def dLRg1 (mu : Bool) (ta : AE) : AE := fun E m Q => ta E m fun u m1 => match u with
  | .v (.int n) => RgOk 0 n ∧ nw mu (rngD 0 (n - 0).toNat) m1 Q
  | _ => False
def dLRg2 (mu : Bool) (ta tb : AE) : AE := fun E m Q => ta E m fun u m1 => tb E m1 fun w m2 => match u, w with
  | .v (.int a), .v (.int b) => RgOk a b ∧ nw mu (rngD a (b - a).toNat) m2 Q
  | _, _ => False
theorem de_listRg1 (mu : Bool) {p p2 : Pos} {pos2 : Pos} {a : Expr} {f : AE} (hc : X.calm = true) (hm : X.mg "list" = none) (hm2 : X.mg "range" = none) (ha : DE X a f) (hg : Gl X "list" := by rfl) (hg2 : Gl X "range" := by rfl)
    (na : starEach [a] X.env = (false, eval a X.env) :: starEach [] X.env := by rfl) (nb : starEach [.Call (.Name "range" p2) [a] [] pos2] X.env = (false, eval (.Call (.Name "range" p2) [a] [] pos2) X.env) :: starEach [] X.env := by rfl) :
    DE X (.Call (.Name "list" p) [.Call (.Name "range" p2) [a] [] pos2] [] pos) (dLRg1 mu f) :=
  pe_imp (pe_listRg hc hg hm (prg_1 hg2 hm2 ha na) nb) fun σ H Q ⟨F, ro, E, m, Qa, cm, ce, hf, p⟩ =>
    ⟨F, ro, E, m, _, cm, ce, hf, fun F1 ro1 H1 u v m1 g1 c1 i1 h1 => by
      revert h1
      split
      · rename_i n
        intro h1
        cases i1
        exact ⟨n, rfl, h1.1, (p.at g1).nw c1 mu (rng_is 0 n) h1.2⟩
      · exact fun h => h.elim⟩
theorem de_listRg2 (mu : Bool) {p p2 : Pos} {pos2 : Pos} {a b : Expr} {f g : AE} (hc : X.calm = true) (hm : X.mg "list" = none) (hm2 : X.mg "range" = none) (ha : DE X a f) (hb : DE X b g) (hg : Gl X "list" := by rfl) (hg2 : Gl X "range" := by rfl)
    (na : starEach [a, b] X.env = (false, eval a X.env) :: starEach [b] X.env := by rfl) (na2 : starEach [b] X.env = (false, eval b X.env) :: starEach [] X.env := by rfl) (hp : (backTo pos2 (starEach [b] X.env)).any (·.1) = false := by rfl) (nb : starEach [.Call (.Name "range" p2) [a, b] [] pos2] X.env = (false, eval (.Call (.Name "range" p2) [a, b] [] pos2) X.env) :: starEach [] X.env := by rfl) :
    DE X (.Call (.Name "list" p) [.Call (.Name "range" p2) [a, b] [] pos2] [] pos) (dLRg2 mu f g) :=
  pe_imp (pe_listRg hc hg hm (prg_2 hg2 hm2 ha hb na na2 hp) nb) fun σ H Q ⟨F, ro, E, m, Qa, cm, ce, hf, p⟩ =>
    ⟨F, ro, E, m, _, cm, ce, hf, fun F1 ro1 H1 u v m1 g1 c1 i1 h1 => ⟨F1, ro1, E, m1, _, c1, ce.mono g1, h1, fun F2 ro2 H2 w x m2 g2 c2 i2 h2 => by
      revert h2
      split
      · rename_i n k
        intro h2
        cases i1.mono g2
        cases i2
        exact ⟨_, _, rfl, rfl, h2.1, (p.at (g1.trans g2)).nw c2 mu (rng_is _ _) h2.2⟩
      · exact fun h => h.elim⟩⟩
/-! ### extend, index, count -/
def aExtend : U → List U → Sto → QA → Prop := fun o us m Q => match o, us with
  | .r k, [u] => (match m[k]?, asL m u with
    | some (.lst l), some l2 => l.length + l2.length ≤ sizeLine ∧ Q (.v .none) (m.set k (.lst (l ++ l2)))
    | _, _ => False)
  | _, _ => False
theorem sim_extend {K : PySem.W.Frag} : SimM K rExtend aExtend := by
  intro F ro H m o x us vs Q Qa c io iu h p
  unfold aExtend at h
  split at h
  · split at h
    · rename_i l l2 el el2
      obtain ⟨a, xs, rfl, h1, h2, hd⟩ := cell_of c io el
      obtain ⟨v, rfl, i1⟩ := iu1 iu
      obtain ⟨b, zs, rfl, hb, hd2⟩ := asL_own c i1 el2
      exact ⟨a, b, xs, zs, rfl, rfl, h2, hb, by rw [hd.length, hd2.length]; exact h.1, p.put c h1 el (hd.append hd2) .non h.2⟩
    · exact h.elim
  · exact h.elim
def aIndex : U → List U → Sto → QA → Prop := fun o us m Q => match asQ m o, us with
  | some l, [.v d] => flatD d = true ∧ l.all flatD = true ∧ (match l.findIdx? fun y => PyData.eqv y d with
    | some j => Q (.v (.int (j : Nat))) m
    | none => False)
  | _, _ => False
theorem sim_index {K : PySem.W.Frag} : SimM K (rIndex K) aIndex := by
  intro F ro H m o x us vs Q Qa c io iu h p
  unfold aIndex at h
  split at h
  · rename_i l d el
    obtain ⟨f1, f2, h⟩ := h
    split at h
    · rename_i j hj
      obtain ⟨a, xs, rfl, r, hd⟩ := asQ_sq c io el
      obtain ⟨v, rfl, i1⟩ := iu1 iu
      obtain ⟨hlt, hp, hno⟩ := List.findIdx?_eq_some_iff_getElem.mp hj
      obtain ⟨z, ez, iz⟩ := hd.get (List.getElem?_eq_getElem hlt)
      have fl : ∀ (j : Nat) (hj : j < l.length), flatD l[j] = true := fun j hj => List.all_eq_true.mp f2 _ (List.getElem_mem hj)
      refine ⟨a, xs, v, j, z, rfl, rfl, r, flat_of i1 f1, flat_all hd f2, ez, ?_, fun k z' hk ez' => ?_, p.god c (.int _) h⟩
      · rw [eqv_flat iz i1 (fl j hlt) f1]; exact hp
      · have hk2 : k < l.length := by omega
        obtain ⟨z2, e2, i2⟩ := hd.get (List.getElem?_eq_getElem hk2)
        rw [ez'] at e2
        cases e2
        rw [eqv_flat i2 i1 (fl k hk2) f1]
        simpa using hno k hk
    · exact h.elim
  · exact h.elim
def aCount : U → List U → Sto → QA → Prop := fun o us m Q => match asQ m o, us with
  | some l, [.v (.int k)] => (match intsOf l with
    | some ns => Q (.v (.int (ns.count k : Nat))) m
    | none => False)
  | _, _ => False
theorem sim_count {K : PySem.W.Frag} : SimM K (rCntI K) aCount := by
  intro F ro H m o x us vs Q Qa c io iu h p
  unfold aCount at h
  split at h
  · rename_i l k el
    split at h
    · rename_i ns en
      obtain ⟨a, xs, rfl, r, hd⟩ := asQ_sq c io el
      obtain ⟨v, rfl, i1⟩ := iu1 iu
      cases i1
      rw [intsOf_eq en] at hd
      rw [hd.ints] at r
      exact ⟨a, ns, k, rfl, rfl, r, p.god c (.int _) h⟩
    · exact h.elim
  · exact h.elim
end
end Z
/-! Y2: dicts: d[k], k in d, d[k] = v, {k: v} as a cell. -/
namespace Z
open PySem PySem.Spec PyProof.Rows L2
def keyOf : PyData → Option Key
  | .int i => some (.inl i)
  | .str x => some (.inr x)
  | _ => none
theorem keyOf_keyD (k : Key) : keyOf (keyD k) = some k := by cases k <;> rfl
/-- the value at a key -/
def lookD (l : List (PyData × PyData)) (d : PyData) : Option PyData := (l.find? fun p => decide (keyOf p.1 = keyOf d)).map (·.2)
/-- in its place, or at the end -/
def putD (l : List (PyData × PyData)) (d v : PyData) : List (PyData × PyData) :=
  if (l.any fun p => decide (keyOf p.1 = keyOf d)) = true then l.map (fun p => if keyOf p.1 = keyOf d then (p.1, v) else p) else l ++ [(d, v)]
theorem key_of {K : PySem.W.Frag} {F : Hp} {v : V} {d : PyData} (h : IsD K F v d) {k : Key} (e : keyOf d = some k) : v = kV k ∧ d = keyD k := by
  cases h <;> simp [keyOf] at e <;> subst e <;> exact ⟨rfl, rfl⟩
section
variable {K : PySem.W.Frag} {F : Hp}
theorem key_dec (j k : Key) : decide (keyOf (keyD j) = keyOf (keyD k)) = decide (j = k) := by
  rw [keyOf_keyD, keyOf_keyD, Bool.eq_iff_iff]
  simp
theorem IsDk.look : ∀ {kvs : List (Key × V)} {l : List (PyData × PyData)} {k : Key}, IsDk K F kvs l →
    (match lookD l (keyD k) with
      | some d => ∃ v, valV kvs k = some v ∧ IsD K F v d
      | none => valV kvs k = none)
  | _, _, k, .nil => rfl
  | _, _, k, .cons (k := j) (v := w) (d := d) (vs := vs) (ds := ds) h t => by
    by_cases e : j = k
    · have e1 : lookD ((keyD j, d) :: ds) (keyD k) = some d := by
        unfold lookD
        rw [List.find?_cons_of_pos (by rw [key_dec]; simpa using e)]
        rfl
      rw [e1]
      exact ⟨w, valV_pos (p := (j, w)) e, h⟩
    · have e1 : lookD ((keyD j, d) :: ds) (keyD k) = lookD ds (keyD k) := by
        unfold lookD
        rw [List.find?_cons_of_neg (by rw [key_dec]; simpa using e)]
      rw [e1, valV_neg (p := (j, w)) e]
      exact IsDk.look t
theorem IsDk.length : ∀ {kvs : List (Key × V)} {l : List (PyData × PyData)}, IsDk K F kvs l → kvs.length = l.length
  | _, _, .nil => rfl
  | _, _, .cons _ t => congrArg (· + 1) (IsDk.length t)
theorem IsDk.any (k : Key) : ∀ {kvs : List (Key × V)} {l : List (PyData × PyData)}, IsDk K F kvs l → (l.any fun p => decide (keyOf p.1 = keyOf (keyD k))) = kvs.any fun kv => decide (kv.1 = k)
  | _, _, .nil => rfl
  | _, _, .cons (k := j) _ t => by rw [List.any_cons, List.any_cons, IsDk.any k t, key_dec]
theorem IsDk.snoc {k : Key} {v : V} {d : PyData} (h : IsD K F v d) : ∀ {kvs : List (Key × V)} {l : List (PyData × PyData)}, IsDk K F kvs l → IsDk K F (kvs ++ [(k, v)]) (l ++ [(keyD k, d)])
  | _, _, .nil => .cons h .nil
  | _, _, .cons a t => .cons a (IsDk.snoc h t)
theorem IsDk.swap {k : Key} {v : V} {d : PyData} (h : IsD K F v d) : ∀ {kvs : List (Key × V)} {l : List (PyData × PyData)}, IsDk K F kvs l → IsDk K F (kvs.map fun kv => if kv.1 = k then (kv.1, v) else kv) (l.map fun p => if keyOf p.1 = keyOf (keyD k) then (p.1, d) else p)
  | _, _, .nil => .nil
  | _, _, .cons (k := j) (v := w) (d := e) a t => by
    rw [List.map_cons, List.map_cons]
    by_cases q : j = k
    · rw [if_pos q, if_pos (by rw [q])]
      exact .cons h (IsDk.swap h t)
    · rw [if_neg q, if_neg (by rw [keyOf_keyD, keyOf_keyD]; simpa using q)]
      exact .cons a (IsDk.swap h t)
theorem IsDk.put {k : Key} {v : V} {d : PyData} (h : IsD K F v d) {kvs : List (Key × V)} {l : List (PyData × PyData)} (t : IsDk K F kvs l) : IsDk K F (putK kvs k v) (putD l (keyD k) d) := by
  unfold putK putD
  rw [IsDk.any k t]
  split
  · exact IsDk.swap h t
  · exact IsDk.snoc h t
end
/-- the entries of a value -/
def asK (m : Sto) : U → Option (List (PyData × PyData))
  | .v (.dict l) => some l
  | .r k => match m[k]? with
    | some (.dct l) => some l
    | _ => none
  | _ => none
theorem asK_own {K : PySem.W.Frag} {F H : Hp} {ro : List Addr} {m : Sto} (c : ConM K F ro H m) {u : U} {v : V} (h : IsU K F ro u v) {l : List (PyData × PyData)} (e : asK m u = some l) : ∃ a kvs, v = .ref a ∧ H a = some (.dK kvs) ∧ IsDk K F kvs l := by
  cases u with
  | v d =>
    cases d <;> simp [asK] at e
    subst e
    cases h with
    | dct h1 h2 => exact ⟨_, _, rfl, c.ex _ _ h1, h2⟩
  | r k =>
    obtain ⟨a, h1, h2⟩ := h
    simp only [asK] at e
    cases q : m[k]? with
    | none => rw [q] at e; cases e
    | some x =>
      rw [q] at e
      cases x with
      | dead => cases e
      | lst l' => cases e
      | dct l' =>
        cases e
        obtain ⟨_, xs, hx, hd⟩ : CellOk K F H a (.dct l) := c.cell k a _ h1 q
        exact ⟨a, xs, h2, hx, hd⟩
  | s ns => simp [asK] at e
  | o t => simp [asK] at e
def dGet (td ty : AE) : AE := fun E m Q => td E m fun u m1 => ty E m1 fun w m2 => match asK m2 u, w with
  | some l, .v key => (match keyOf key, lookD l key with
    | some _, some d => Q (.v d) m2
    | _, _ => False)
  | _, _ => False
def dIn (neg : Bool) (ty td : AE) : AE := fun E m Q => ty E m fun w m1 => td E m1 fun u m2 => match asK m2 u, w with
  | some l, .v key => (match keyOf key with
    | some _ => Q (.v (.bool (if neg then !(lookD l key).isSome else (lookD l key).isSome))) m2
    | none => False)
  | _, _ => False
def dPut (tv td ty : AE) : AS := fun D E m => tv E m fun x m1 => td E m1 fun u m2 => ty E m2 fun w m3 => match x, u, w with
  | .v d, .r k, .v key => (match m3[k]?, keyOf key with
    | some (.dct l), some _ => l.length < sizeLine ∧ D.nx E (m3.set k (.dct (putD l key d)))
    | _, _ => False)
  | _, _, _ => False
section
variable {X : Cx} {o i e : Expr} {fo fi fe : AE} {pos pos' : Pos}
theorem dget_of {K : PySem.W.Frag} {F H : Hp} {ro : List Addr} {m : Sto} (c : ConM K F ro H m) {u : U} {v y : V} {l : List (PyData × PyData)} {key : PyData} {k : Key} (h : IsU K F ro u v) (el : asK m u = some l) (hy : IsD K F y key) (ek : keyOf key = some k) :
    ∃ a kvs, v = .ref a ∧ IsDk K F kvs l ∧ y = kV k ∧ key = keyD k ∧ DGet H a y (valV kvs k) := by
  obtain ⟨a, kvs, rfl, hx, hd⟩ := asK_own c h el
  obtain ⟨e1, e2⟩ := key_of hy ek
  exact ⟨a, kvs, rfl, hd, e1, e2, .inl ⟨kvs, k, .inl hx, e1, rfl⟩⟩
theorem de_get (hu : X.A.units + 1 < cLine) (ho : DE X o fo) (hi : DE X i fi) (hs : NoSl i := by intro _ _; rfl) : DE X (.Subscript o i pos) (dGet fo fi) :=
  pe_imp (pe_dget hu ho hi hs) fun σ H Q ⟨F, ro, E, m, Qa, cm, ce, hf, p⟩ =>
    ⟨F, ro, E, m, _, cm, ce, hf, fun F1 ro1 H1 u v m1 g1 c1 i1 h1 => ⟨F1, ro1, E, m1, _, c1, ce.mono g1, h1, fun F2 ro2 H2 w y m2 g2 c2 i2 h2 => by
      revert h2
      split
      · rename_i l key el
        split
        · rename_i k d ek ed
          intro h2
          obtain ⟨a, kvs, rfl, hd, e1, e2, hg⟩ := dget_of c2 (i1.mono g2) el i2 ek
          have hl := IsDk.look (k := k) hd
          rw [← e2, ed] at hl
          obtain ⟨v, ev, iv⟩ := hl
          rw [ev] at hg
          exact ⟨a, v, rfl, hg, (p.at (g1.trans g2)).god c2 iv h2⟩
        · exact fun h => h.elim
      · exact fun h => h.elim⟩⟩
theorem isSome_look {K : PySem.W.Frag} {F : Hp} {kvs : List (Key × V)} {l : List (PyData × PyData)} {k : Key} (h : IsDk K F kvs l) : (valV kvs k).isSome = (lookD l (keyD k)).isSome := by
  have hl := IsDk.look (k := k) h
  cases e : lookD l (keyD k) with
  | none => rw [e] at hl; rw [hl]; rfl
  | some d => rw [e] at hl; obtain ⟨v, ev, _⟩ := hl; rw [ev]; rfl
theorem din_sim {K : PySem.W.Frag} (σ : L2.St) (H : Hp) (Q : VK) (h : cE K (dIn false fi fo) σ H Q) : tDIn (cE K fi) (cE K fo) σ H Q := by
  obtain ⟨F, ro, E, m, Qa, cm, ce, hf, p⟩ := h
  exact ⟨F, ro, E, m, _, cm, ce, hf, fun F1 ro1 H1 w y m1 g1 c1 i1 h1 => ⟨F1, ro1, E, m1, _, c1, ce.mono g1, h1, fun F2 ro2 H2 u v m2 g2 c2 i2 h2 => by
      revert h2
      split
      · rename_i l key el
        split
        · rename_i k ek
          intro h2
          obtain ⟨a, kvs, rfl, hd, e1, e2, hg⟩ := dget_of c2 i2 el (i1.mono g2) ek
          refine ⟨a, _, rfl, hg, ?_⟩
          rw [isSome_look hd, ← e2]
          exact (p.at (g1.trans g2)).god c2 (.bl _) h2
        · exact fun h => h.elim
      · exact fun h => h.elim⟩⟩
theorem dnin_sim {K : PySem.W.Frag} (σ : L2.St) (H : Hp) (Q : VK) (h : cE K (dIn true fi fo) σ H Q) : tDNotIn (cE K fi) (cE K fo) σ H Q := by
  obtain ⟨F, ro, E, m, Qa, cm, ce, hf, p⟩ := h
  exact ⟨F, ro, E, m, _, cm, ce, hf, fun F1 ro1 H1 w y m1 g1 c1 i1 h1 => ⟨F1, ro1, E, m1, _, c1, ce.mono g1, h1, fun F2 ro2 H2 u v m2 g2 c2 i2 h2 => by
      revert h2
      split
      · rename_i l key el
        split
        · rename_i k ek
          intro h2
          obtain ⟨a, kvs, rfl, hd, e1, e2, hg⟩ := dget_of c2 i2 el (i1.mono g2) ek
          refine ⟨a, _, rfl, hg, ?_⟩
          rw [isSome_look hd, ← e2]
          exact (p.at (g1.trans g2)).god c2 (.bl _) h2
        · exact fun h => h.elim
      · exact fun h => h.elim⟩⟩
theorem de_din (hu : X.A.units + 1 < cLine) (hi : DE X i fi) (ho : DE X o fo) (h1 : behindInMarks .In o = false := by rfl) : DE X (.Compare i [.In] [o] pos) (dIn false fi fo) := pe_imp (pe_cmp (pc_din hu hi ho) h1) din_sim
theorem de_dnotin (hu : X.A.units + 1 < cLine) (hi : DE X i fi) (ho : DE X o fo) (h1 : behindInMarks .NotIn o = false := by rfl) : DE X (.Compare i [.NotIn] [o] pos) (dIn true fi fo) := pe_imp (pe_cmp (pc_dnotin hu hi ho) h1) dnin_sim
theorem dt_din (hu : X.A.units + 1 < cLine) (hi : DE X i fi) (ho : DE X o fo) (h1 : behindInMarks .In o = false := by rfl) : DT X (.Compare i [.In] [o] pos) (dB (dIn false fi fo)) := pt_imp (pt_cmp (pc_din hu hi ho) h1) fun σ H Q h => din_sim σ H _ (dB_sim σ H Q h)
theorem dt_dnotin (hu : X.A.units + 1 < cLine) (hi : DE X i fi) (ho : DE X o fo) (h1 : behindInMarks .NotIn o = false := by rfl) : DT X (.Compare i [.NotIn] [o] pos) (dB (dIn true fi fo)) := pt_imp (pt_cmp (pc_dnotin hu hi ho) h1) fun σ H Q h => dnin_sim σ H _ (dB_sim σ H Q h)
theorem ds_dput (hu : X.A.units + 1 < cLine) (he : DE X e fe) (ho : DE X o fo) (hi : DE X i fi) (hs : swapsWith e (some (.Subscript o i pos')) pos.line X.env = pure false := by rfl) : DS X (.Assign [.Subscript o i pos'] e pos) (dPut fe fo fi) :=
  ps_imp (ps_dput hu ho hi he hs) fun D σ H ⟨F, ro, E, m, Da, c, ce, hf, p⟩ =>
    ⟨F, ro, E, m, _, c, ce, hf, fun F1 ro1 H1 x vx m1 g1 c1 i1 h1 => ⟨F1, ro1, E, m1, _, c1, ce.mono g1, h1, fun F2 ro2 H2 u v m2 g2 c2 i2 h2 => ⟨F2, ro2, E, m2, _, c2, ce.mono (g1.trans g2), h2, fun F3 ro3 H3 w y m3 g3 c3 i3 h3 => by
      revert h3
      split
      · rename_i d k key
        split
        · rename_i l kk el ek
          intro h3
          obtain ⟨a, ha, ev⟩ := i2.mono g3
          subst ev
          obtain ⟨hF, kvs, hx, hd⟩ : CellOk X.K F3 H3 a (.dct l) := c3.cell k a _ ha el
          obtain ⟨e1, e2⟩ := key_of i3 ek
          have hv : IsD X.K F3 vx d := i1.mono (g2.trans g3)
          obtain ⟨c4, g4⟩ := c3.dctSet ha el (hd.put (k := kk) hv)
          subst e2
          exact ⟨a, _, rfl, .inl ⟨kvs, kk, hx, e1, by rw [hd.length]; exact h3.1, rfl⟩, p.nx _ _ _ σ E _ (g1.trans (g2.trans (g3.trans g4))) c4 (ce.mono (g1.trans (g2.trans (g3.trans g4)))) h3.2⟩
        · exact fun h => h.elim
      · exact fun h => h.elim⟩⟩⟩
end
/-! ### {} and {k: v} as cells -/
section
variable {X : Cx} {pos : Pos}
def dDctM0 : AE := fun _ m Q => Q (.r m.length) (m ++ [.dct []])
theorem de_dctM0 : DE X (.Dict [] [] pos) dDctM0 := pe_imp pe_dnewK fun σ H Q ⟨F, ro, E, m, Qa, cm, ce, hf, p⟩ => fun b hb => by
  obtain ⟨c1, g1⟩ := cm.dctNew hb (xs := []) (l := []) .nil
  exact p F (ro ++ [b]) _ (.r m.length) (.ref b) _ g1 c1 ⟨b, by rw [← cm.len, List.getElem?_append_right (Nat.le_refl _)]; simp, rfl⟩ hf
def dDctM1 (tk tv : AE) : AE := fun E m Q => tk E m fun w m1 => tv E m1 fun x m2 => match w, x with
  | .v key, .v d => (match keyOf key with
    | some _ => Q (.r m2.length) (m2 ++ [.dct [(key, d)]])
    | none => False)
  | _, _ => False
/-- an object that is neither known nor a cell -/
theorem ConM.loose {K : PySem.W.Frag} {F H : Hp} {ro : List Addr} {m : Sto} (c : ConM K F ro H m) {D : Addr} (hF : F D = none) (hr : D ∉ ro) (o : HO) : ConM K F ro (upd H D o) m := by
  refine ⟨fun b x z => ?_, c.len, c.nd, fun k a x z1 z2 => ?_⟩
  · have ne : b ≠ D := fun e => by rw [e, hF] at z; cases z
    rw [upd_ne ne]; exact c.ex b x z
  · have ne : a ≠ D := fun z => hr (z ▸ List.mem_of_getElem? z1)
    exact (c.cell k a x z1 z2).grow (Same.refl F) (fun z => z) (upd_ne ne)
theorem de_dctM1 {ek ev : Expr} {fk fv : AE} (hk : DE X ek fk) (hv : DE X ev fv) : DE X (.Dict [some ek] [ev] pos) (dDctM1 fk fv) :=
  pe_imp (pe_disp (pps_cons hk hv pps_nil) rfl rfl (by simp) (by simp)) fun σ H Q ⟨F, ro, E, m, Qa, cm, ce, hf, p⟩ => fun D hD => by
    obtain ⟨hFD, hrD⟩ := cm.new hD
    have gB : Gro F ro H F ro (upd H D (.dK [])) := ⟨Same.refl _, ⟨[], by simp, fun _ h => nomatch h⟩, fun a x q1 q2 => ⟨by rw [upd_ne (ne_of_none q1 hD)]; exact q1, rfl⟩, fun a q1 => by
      by_cases z : a = D
      · rw [z, upd_same]; simp
      · rw [upd_ne z]; exact q1⟩
    refine ⟨F, ro, E, m, _, cm.loose hFD hrD _, ce, hf, fun F1 ro1 H1 w y m1 g1 c1 i1 h1 => ⟨F1, ro1, E, m1, _, c1, ce.mono g1, h1, fun F2 ro2 H2 x z m2 g2 c2 i2 h2 => ?_⟩⟩
    revert h2
    split
    · rename_i key d
      split
      · rename_i k ek
        intro h2
        have g12 := g1.trans g2
        obtain ⟨q1, q2⟩ := g12.fr D _ upd_same hrD
        have q3 : D ∉ ro2 := fun hm => by
          obtain ⟨t, et, nt⟩ := g12.more
          rw [et] at hm
          rcases List.mem_append.mp hm with z | z
          · exact hrD z
          · have := nt D z
            rw [upd_same] at this
            cases this
        have q4 : F2 D = none := q2.trans hFD
        obtain ⟨e1, e2⟩ := key_of (i1.mono g2) ek
        have iv : IsD X.K F2 z d := i2
        refine ⟨q1, [(k, z)], by rw [e1]; rfl, by simp, ?_⟩
        have c3 := (c2.loose q4 q3 (.dK [(k, z)])).dctAdopt (l := [(key, d)]) upd_same q4 q3 (by rw [e2]; exact .cons iv .nil)
        have g3 : Gro F ro H F2 (ro2 ++ [D]) (upd H2 D (.dK [(k, z)])) := by
          obtain ⟨t, et, nt⟩ := g12.more
          refine ⟨g12.ex, ⟨t ++ [D], by rw [et, List.append_assoc], fun a ha => ?_⟩, fun a x z1 z2 => ?_, fun a z1 => ?_⟩
          · rcases List.mem_append.mp ha with ha | ha
            · have := nt a ha
              by_cases ne : a = D
              · rw [ne]; exact hD
              · rw [upd_ne ne] at this; exact this
            · have : a = D := by simpa using ha
              rw [this]; exact hD
          · have ne : a ≠ D := ne_of_none z1 hD
            obtain ⟨w1, w2⟩ := g12.fr a x (by rw [upd_ne ne]; exact z1) z2
            exact ⟨by rw [upd_ne ne]; exact w1, w2⟩
          · by_cases ne : a = D
            · rw [ne, upd_same]; simp
            · rw [upd_ne ne]
              exact g12.st a (by rw [upd_ne ne]; exact z1)
        exact p F2 (ro2 ++ [D]) _ (.r m2.length) (.ref D) _ g3 c3 ⟨D, by rw [← c2.len, List.getElem?_append_right (Nat.le_refl _)]; simp, rfl⟩ h2
      · exact fun h => h.elim
    · exact fun h => h.elim
end
/-! ### sorted, ints, any number of them -/
def aSortedI (mu : Bool) : R1A := fun us m Q => match us with
  | [u] => (match asI m u with
    | some l => ∀ l' : List Int, l'.Perm l → l'.Pairwise (· ≤ ·) → nw mu (l'.map .int) m Q
    | none => False)
  | _ => False
theorem sim_sortedI {K : PySem.W.Frag} (mu : Bool) : SimC K (rSortedI K) (aSortedI mu) := by
  intro F ro H m us vs Q Qa c iu h p
  unfold aSortedI at h
  split at h
  · obtain ⟨v, rfl, i1⟩ := iu1 iu
    split at h
    · rename_i l el
      obtain ⟨a, rfl, hs⟩ := asI_sq c i1 el
      exact ⟨a, l, rfl, hs, fun l' b h1 h2 hb => p.nw c mu (IsDs.of_ints l') (h l' h1 h2) b hb⟩
    · exact h.elim
  · exact h.elim
/-! ### xs += ys -/
def aExt2 : R2A := fun a b m Q => match a with
  | .r k => (match m[k]?, asL m b with
    | some (.lst l), some l2 => l.length + l2.length ≤ sizeLine ∧ Q (.r k) (m.set k (.lst (l ++ l2)))
    | _, _ => False)
  | _ => False
theorem sim_ext2 {K : PySem.W.Frag} : Sim2 K rExt2 aExt2 := by
  intro F ro H m a b v w Q Qa c ia ib h p
  unfold aExt2 at h
  split at h
  · rename_i k
    split at h
    · rename_i l l2 el el2
      obtain ⟨x, xs, rfl, h1, h2, hd⟩ := cell_of c ia el
      obtain ⟨y, zs, rfl, hb, hd2⟩ := asL_own c ib el2
      obtain ⟨c1, g1⟩ := c.cellSet h1 el (hd.append hd2)
      exact ⟨x, y, xs, zs, rfl, rfl, h2, hb, by rw [hd.length, hd2.length]; exact h.1, (p.at g1).go (u := .r k) c1 ⟨x, h1, rfl⟩ h.2⟩
    · exact h.elim
  · exact h.elim
end Z
/-! Y3: repr of any data, dicts too. -/
namespace Z
open PySem PySem.Spec PyProof.Rows L2
section
variable {X : Cx} {pins : List (Addr × Obj)} {σ : L2.St} {H : Hp} {s : Shared}
/-- a value's text is known wherever the heap has grown -/
def Rk (X : Cx) (h : Heap) (u : Value) (d : PyData) : Prop := ∃ as bs, Reads h u d as ∧ ReadAtMost h d.depth bs ∧ ReprK X.prog X.w bs h d.depth u d.shown
def Rks (X : Cx) (h : Heap) (us : List Value) (ds : List PyData) : Prop := ∃ as bs, ReadsAll h us ds as ∧ ReadAtMost h (PyData.depthAll ds) bs ∧ ReprAllK X.prog X.w bs h (PyData.depthAll ds) us (PyData.shownAll ds)
theorem Rk.of_is {h : Heap} {u : Value} {d : PyData} {as : List Addr} (r : Reads h u d as) (k : ReprIs X.prog X.w u d.shown) : Rk X h u d := ⟨as, [], r, fun _ z => (nomatch z), ReprK.of_is k _ _ _⟩
theorem key_rk {h : Heap} {k : Key} {u : Value} (e : keyIs k u = true) (hs : (keyD k).showable = true) (hz : (keyD k).shown.length ≤ sizeLine) : Rk X h u (keyD k) := by
  rcases keyIs_shape e with ⟨i, t, rfl, rfl⟩ | ⟨x, t, rfl, rfl⟩
  · refine Rk.of_is (d := .int i) (.int i t) ?_
    have q := ReprIs.int (prog := X.prog) (w := X.w) t (show i.natAbs.log2 < 1920 by simpa [keyD, PyData.showable] using hs)
    simpa only [PyData.shown] using q
  · refine Rk.of_is (d := .str x) (.str x t) ?_
    have q := ReprIs.str (prog := X.prog) (w := X.w) x t (by simpa only [keyD, PyData.shown] using hz)
    simpa only [PyData.shown] using q
theorem Rks.nil {h : Heap} : Rks X h [] [] := ⟨[], [], .nil, fun _ z => (nomatch z), by simp only [PyData.shownAll]; exact .nil⟩
theorem Rks.cons {h : Heap} {u : Value} {us : List Value} {d : PyData} {ds : List PyData} (a : Rk X h u d) (b : Rks X h us ds) : Rks X h (u :: us) (d :: ds) := by
  obtain ⟨a1, b1, r1, m1, k1⟩ := a
  obtain ⟨a2, b2, r2, m2, k2⟩ := b
  have l1 : d.depth ≤ PyData.depthAll (d :: ds) := by simp only [PyData.depthAll]; exact Nat.le_max_left _ _
  have l2 : PyData.depthAll ds ≤ PyData.depthAll (d :: ds) := by simp only [PyData.depthAll]; exact Nat.le_max_right _ _
  refine ⟨a1 ++ a2, b1 ++ b2, .cons r1 r2, (m1.mono l1).append (m2.mono l2), ?_⟩
  simp only [PyData.shownAll]
  refine .cons ((k1.more fun z hz => List.mem_append.mpr (.inl hz)).level_le l1) (k2.more_le (fun z hz => List.mem_append.mpr (.inr hz)) l2)
theorem all_small {ds : List PyData} {n : Nat} {f : List Str → Str} (g : ∀ {ts : List Str} {t : Str}, t ∈ ts → t.length ≤ (f ts).length) (hz : (f (PyData.shownAll ds)).length ≤ n) : ∀ t ∈ PyData.shownAll ds, t.length ≤ n := fun _ ht => Nat.le_trans (g ht) hz
theorem Rk.lst {h : Heap} {a : Addr} {o : Obj} {n : Nat} {us : List Value} {ds : List PyData} (h1 : h.get? a = some o) (h2 : o.cls = .type "list") (h3 : o.data = .seq us.toArray n) (b : Rks X h us ds) : Rk X h (.ref a) (.list ds) := by
  obtain ⟨a1, b1, r1, m1, k1⟩ := b
  have rr : Reads h (.ref a) (.list ds) (a :: a1) := .list h1 h2 h3 r1
  have dd : (PyData.list ds).depth = PyData.depthAll ds + 1 := by simp only [PyData.depth]
  have out : a ∉ b1 := not_mem_of_deeper rr (by omega) m1
  refine ⟨_, a :: b1, rr, ReadAtMost.cons rr (by omega) m1, ?_⟩
  rw [dd]
  simp only [PyData.shown]
  cases us with
  | nil =>
    cases r1
    simp only [PyData.shownAll, listText_nil]
    exact ReprK.listEmpty h1 h2 h3
  | cons x l => exact ReprK.list h1 h2 h3 out (by simpa using k1.length_eq) fun i y e => k1.item i y (by simpa using e)
theorem Rk.tup {h : Heap} {a : Addr} {o : Obj} {n : Nat} {us : List Value} {ds : List PyData} (h1 : h.get? a = some o) (h2 : o.cls = .type "tuple") (h3 : o.data = .seq us.toArray n) (b : Rks X h us ds) : Rk X h (.ref a) (.tuple ds) := by
  obtain ⟨a1, b1, r1, m1, k1⟩ := b
  have rr : Reads h (.ref a) (.tuple ds) a1 := .tuple h1 h2 h3 r1
  have dd : (PyData.tuple ds).depth = PyData.depthAll ds + 1 := by simp only [PyData.depth]
  have out : a ∉ b1 := not_mem_of_deeper rr (by omega) m1
  refine ⟨_, a :: b1, rr, ReadAtMost.cons rr (by omega) m1, ?_⟩
  rw [dd]
  simp only [PyData.shown]
  exact ReprK.tuple h1 h2 h3 out k1
/-- the entries of a dict -/
def Rkd (X : Cx) (h : Heap) (es : List DictEntry) (ds : List (PyData × PyData)) : Prop := Rks X h (es.map (·.key)) (ds.map (·.1)) ∧ Rks X h (es.map (·.val)) (ds.map (·.2))
theorem Rkd.ents {h : Heap} {es : List DictEntry} {ds : List (PyData × PyData)} (b : Rkd X h es ds) : ∃ a1 a2 bs, ReadsAll h (es.map (·.key)) (ds.map (·.1)) a1 ∧ ReadsAll h (es.map (·.val)) (ds.map (·.2)) a2 ∧ ReadAtMost h (PyData.depthKv ds) bs ∧ ReprEntriesK X.prog X.w bs h (PyData.depthKv ds) es (PyData.shownKv ds) := by
  obtain ⟨⟨a1, b1, r1, m1, k1⟩, ⟨a2, b2, r2, m2, k2⟩⟩ := b
  refine ⟨a1, a2, b1 ++ b2, r1, r2, (m1.mono (PyData.depthAll_keys_le ds)).append (m2.mono (PyData.depthAll_vals_le ds)), ?_⟩
  rw [PyData.shownKv_eq]
  exact ReprEntriesK.of_two es _ _ (k1.more_le (fun z hz => List.mem_append.mpr (.inl hz)) (PyData.depthAll_keys_le ds)) (k2.more_le (fun z hz => List.mem_append.mpr (.inr hz)) (PyData.depthAll_vals_le ds))
theorem Rk.dct {h : Heap} {a : Addr} {o : Obj} {n : Nat} {es : Array DictEntry} {ds : List (PyData × PyData)} (h1 : h.get? a = some o) (h2 : o.cls = .type "dict") (h3 : o.data = .dict es n) (hm : (a == sysModules) = false) (b : Rkd X h es.toList ds) : Rk X h (.ref a) (.dict ds) := by
  obtain ⟨a1, a2, bs, r1, r2, m, k⟩ := b.ents
  have rr : Reads h (.ref a) (.dict ds) (a :: a1 ++ a2) := .dict h1 h2 h3 r1 r2
  have dd : (PyData.dict ds).depth = PyData.depthKv ds + 1 := by simp only [PyData.depth]
  have out : a ∉ bs := not_mem_of_deeper rr (by omega) m
  refine ⟨_, a :: bs, rr, ReadAtMost.cons rr (by omega) m, ?_⟩
  rw [dd]
  simp only [PyData.shown]
  exact ReprK.dict h1 h2 h3 hm out k
theorem shown_kv {ds : List (PyData × PyData)} {n : Nat} (hz : (dictText (PyData.shownKv ds)).length ≤ n) : ∀ p ∈ PyData.shownKv ds, p.length ≤ n := fun _ hp => Nat.le_trans (dictText_mem_le hp) hz
mutual
theorem IsD.rk (I : Inv X pins σ H s) : ∀ {v : V} {d : PyData} {u : Value}, IsD X.K H v d → RelV v u → d.showable = true → d.shown.length ≤ sizeLine → Rk X s.heap u d
  | _, _, u, .non, r, hs, hz => by
    cases r
    refine Rk.of_is .none ?_
    simpa only [PyData.shown] using ReprIs.none
  | _, _, u, .bl b, r, hs, hz => by
    cases r
    refine Rk.of_is (.bool b) ?_
    simpa only [PyData.shown] using ReprIs.bool b
  | _, _, u, .int i, r, hs, hz => by
    obtain ⟨t, rfl⟩ := r
    refine Rk.of_is (.int i t) ?_
    simpa only [PyData.shown] using ReprIs.int (prog := X.prog) (w := X.w) t (by simpa [PyData.showable] using hs)
  | _, _, u, .str x, r, hs, hz => by
    obtain ⟨t, rfl⟩ := r
    refine Rk.of_is (.str x t) ?_
    simpa only [PyData.shown] using ReprIs.str (prog := X.prog) (w := X.w) x t (by simpa only [PyData.shown] using hz)
  | _, _, u, .lst hf hi, r, hs, hz => by
    cases r
    obtain ⟨its, rv, ⟨o, n, ho, hc, _, hd⟩, _⟩ := I.list (.inl (.inl hf))
    have hz' := hz
    simp only [PyData.shown] at hz'
    exact Rk.lst ho hc hd (IsDs.rk I hi rv (by simpa only [PyData.showable] using hs) (all_small listText_mem_le hz'))
  | _, _, u, .tup hf hi, r, hs, hz => by
    cases r
    obtain ⟨its, rv, ⟨o, ho, hc, n, hd⟩, _⟩ := I.tuple (.inl hf)
    have hz' := hz
    simp only [PyData.shown] at hz'
    exact Rk.tup ho hc hd (IsDs.rk I hi rv (by simpa only [PyData.showable] using hs) (all_small tupleText_mem_le hz'))
  | _, _, u, .dct hf hi, r, hs, hz => by
    cases r
    obtain ⟨_, hm, ps, rel, ⟨o, es, ep, ho, ex, hd, _, pr, _⟩⟩ := dk_of I.hok hf
    have hz' := hz
    simp only [PyData.shown] at hz'
    exact Rk.dct ho ex.1 hd hm (IsDk.rk I hi rel pr (by simpa only [PyData.showable] using hs) (shown_kv hz'))
theorem IsDs.rk (I : Inv X pins σ H s) : ∀ {vs : List V} {ds : List PyData} {us : List Value}, IsDs X.K H vs ds → Vals vs us → PyData.showableAll ds = true → (∀ t ∈ PyData.shownAll ds, t.length ≤ sizeLine) → Rks X s.heap us ds
  | _, _, _, .nil, r, hs, hz => by
    cases r
    exact Rks.nil
  | _, _, _, .cons hi hr, r, hs, hz => by
    cases r with
    | cons r1 r2 =>
      simp only [PyData.showableAll, Bool.and_eq_true] at hs
      simp only [PyData.shownAll, List.mem_cons, forall_eq_or_imp] at hz
      exact Rks.cons (IsD.rk I hi r1 hs.1 hz.1) (IsDs.rk I hr r2 hs.2 hz.2)
theorem IsDk.rk (I : Inv X pins σ H s) : ∀ {vs : List (Key × V)} {ds : List (PyData × PyData)} {ps : List (Key × Value)} {es : List DictEntry}, IsDk X.K H vs ds → KV vs ps → Pairs (mixKind X.prog X.w) es ps → PyData.showableKv ds = true → (∀ t ∈ PyData.shownKv ds, t.length ≤ sizeLine) → Rkd X s.heap es ds
  | _, _, _, _, .nil, r, p, hs, hz => by
    cases r
    cases p
    exact ⟨Rks.nil, Rks.nil⟩
  | _, _, _, _, .cons (k := k) (d := d) hi hr, r, p, hs, hz => by
    cases r with
    | cons r1 r2 =>
      cases p with
      | cons p1 p2 p3 =>
        simp only [PyData.showableKv, Bool.and_eq_true] at hs
        simp only [PyData.shownKv, List.mem_cons, forall_eq_or_imp] at hz
        have l1 : (keyD k).shown.length ≤ sizeLine := by
          have := hz.1
          rw [strLen_append, strLen_append] at this
          omega
        have l2 : d.shown.length ≤ sizeLine := by
          have := hz.1
          rw [strLen_append, strLen_append] at this
          omega
        obtain ⟨q1, q2⟩ := IsDk.rk I hr r2 p3 hs.2 hz.2
        have e1 : k = _ := r1.1
        have rk := IsD.rk I hi r1.2 hs.1.2 l2
        exact ⟨Rks.cons (key_rk (by subst e1; exact p1) hs.1.1 l1) q1, Rks.cons (by have p2' : _ = _ := p2; rw [← p2'] at rk; exact rk) q2⟩
end
def aReprX : R1A := fun us m Q => match us with
  | [u] => (match asD m u with
    | some d => d.showable = true ∧ d.depth ≤ 64 ∧ d.shown.length ≤ sizeLine ∧ Q (.v (.str d.shown)) m
    | none => False)
  | _ => False
def rReprX (K : PySem.W.Frag) : List V → Hp → VK → Prop := fun xs H Q => ∃ v d, xs = [v] ∧ IsD K H v d ∧ d.showable = true ∧ d.depth ≤ 64 ∧ d.shown.length ≤ sizeLine ∧ Q (.str d.shown) H
theorem call_reprX (hr : X.A.units + 66 < cLine) (hg : X.A.guards = some []) : CallR X (.builtin "repr") (rReprX X.K) := by
  intro pins s σ H xs us Q I r h
  obtain ⟨v, d, rfl, hd, h1, h3, h4, q⟩ := h
  obtain ⟨u, rfl, ru⟩ := vals1 r
  cases hd with
  | non => cases ru; exact PySem.P.repr_of_none ⟨.str _, H, I.tok _, ⟨_, rfl⟩, q⟩
  | bl b => cases ru; exact PySem.P.repr_of_bool ⟨.str _, H, I.tok _, ⟨_, rfl⟩, q⟩
  | int i =>
    obtain ⟨t, rfl⟩ := ru
    exact PySem.P.repr_of_int (by simpa [PyData.showable] using h1) ⟨.str _, H, I.tok _, ⟨_, rfl⟩, q⟩
  | str x =>
    obtain ⟨t, rfl⟩ := ru
    exact PySem.P.repr_of_str ⟨.str _, H, I.tok _, ⟨_, rfl⟩, q⟩ h4
  | lst hf hi =>
    cases ru
    obtain ⟨its, rv, ⟨o, n, ho, hc, _, hdd⟩, _⟩ := I.list (.inl (.inl hf))
    have hz' := h4
    simp only [PyData.shown] at hz'
    obtain ⟨a1, b1, r1, m1, k1⟩ := IsDs.rk I hi rv (by simpa only [PyData.showable] using h1) (all_small listText_mem_le hz')
    simp only [PyData.depth] at h3
    simp only [PyData.shown] at q
    refine PySem.call_repr_slot (by omega) ⟨o, ho, hc⟩ F.slot_list_repr.toG ?_
    cases its with
    | nil =>
      cases r1
      simp only [PyData.shownAll, listText_nil] at q
      exact PySem.call_list_repr_empty ⟨o, ho, hc⟩ ho hdd ⟨_, _, rfl, .str _, H, I.tok _, ⟨_, rfl⟩, q⟩
    | cons x l =>
      refine call_list_reprK ho hc hdd (not_mem_of_deeper (.list ho hc hdd r1) (by simp only [PyData.depth]; omega) m1) (by simpa using k1.length_eq) (fun i y e => k1.item i y (by simpa using e)) hg (fun b _ => Clear.nil b) (by show X.A.units + 1 + _ < _; omega) (fun _ _ e => e) (fun h' u tk hk => ?_) hz'
      exact ⟨_, _, rfl, .str _, H, I.kept (t' := tk) hk, ⟨_, rfl⟩, q⟩
  | tup hf hi =>
    cases ru
    obtain ⟨its, rv, ⟨o, ho, hc, n, hdd⟩, _⟩ := I.tuple (.inl hf)
    have hz' := h4
    simp only [PyData.shown] at hz'
    obtain ⟨a1, b1, r1, m1, k1⟩ := IsDs.rk I hi rv (by simpa only [PyData.showable] using h1) (all_small tupleText_mem_le hz')
    simp only [PyData.depth] at h3
    simp only [PyData.shown] at q
    refine PySem.call_repr_slot (by omega) ⟨o, ho, hc⟩ F.slot_tuple_repr ?_
    refine call_tuple_reprK ho hc hdd (not_mem_of_deeper (.tuple ho hc hdd r1) (by simp only [PyData.depth]; omega) m1) k1 hg (fun b _ => Clear.nil b) (by show X.A.units + 1 + _ < _; omega) (fun _ _ e => e) (fun h' u tk hk => ?_) hz'
    exact ⟨_, _, rfl, .str _, H, I.kept (t' := tk) hk, ⟨_, rfl⟩, q⟩
  | dct hf hi =>
    cases ru
    obtain ⟨_, hm, ps, rel, ⟨o, es, ep, ho, ex, hdd, _, pr, _⟩⟩ := dk_of I.hok hf
    have hz' := h4
    simp only [PyData.shown] at hz'
    obtain ⟨a1, a2, bs, r1, r2, m, k⟩ := (IsDk.rk I hi rel pr (by simpa only [PyData.showable] using h1) (shown_kv hz')).ents
    simp only [PyData.depth] at h3
    simp only [PyData.shown] at q
    refine PySem.call_repr_slot (by omega) ⟨o, ho, ex.1⟩ F.slot_dict_repr ?_
    refine call_dict_reprK ho ex.1 hdd hm (not_mem_of_deeper (.dict ho ex.1 hdd r1 r2) (by simp only [PyData.depth]; omega) m) k hg (fun b _ => Clear.nil b) (by show X.A.units + 1 + _ < _; omega) (fun _ _ e => e) (fun h' u tk hk => ?_) hz'
    exact ⟨_, _, rfl, .str _, H, I.kept (t' := tk) hk, ⟨_, rfl⟩, q⟩
end
theorem sim_reprX {K : PySem.W.Frag} : SimC K (rReprX K) aReprX := by
  intro F ro H m us vs Q Qa c iu h p
  unfold aReprX at h
  split at h
  · obtain ⟨v, rfl, i1⟩ := iu1 iu
    split at h
    · rename_i d ed
      exact ⟨v, d, rfl, asD_is c i1 ed, h.1, h.2.1, h.2.2.1, p.god c (.str _) h.2.2.2⟩
    · exact h.elim
  · exact h.elim
end Z
/-! Y4: sorted(set(xs)) of a list of ints. -/
namespace Z
open PySem PySem.Spec PyProof.Rows L2
/-- a set as it is made -/
abbrev setE (w : World) : Obj := { cls := .type "set", dict := none, data := .set #[] 0 (.fresh 0 0 (!w.params.followText "set-order")) }
section
variable {P : Program} {w : World} {A : Around} {E : Value → Shared → Prop} {s : Shared} {l : Addr} {its : Array Value} {ns : List Int}
/-- what a list's ints do to a set at S -/
theorem set_fill {S : Addr} (up : A.handled = none) (hS : s.heap.get? S = some (setE w)) (hl : s.heap.IsList l its) (hn : S ≠ l) (hi : IntsAre its.toList ns) (few : ns.length + 1 < scanBound) {R : Result → Shared → Prop}
    (h : ∀ (h' : Heap) (tk c : Nat), SetR w h' S (fun j => decide (j ∈ ns)) c → c ≤ ns.length → (∀ b o, b ≠ S → s.heap.get? b = some o → h'.get? b = some o) → R (.ok (.ret .none)) { s with heap := h', toks := tk }) :
    codeAny (model P w) A (.builtin "set.update.loop" ⟨[.ref S, .ref s.heap.objs.size], []⟩) R { s with heap := s.heap.push { cls := .type "list_iterator", data := .fields #[.ref l, .int 0 0] } } := by
  have hz : its.size = ns.length := by
    have q := IntsAre.length hi
    rw [Array.length_toList] at q
    exact q
  have ltS := Heap.lt_size hS
  have ltL : l < s.heap.objs.size := let ⟨_, e, _⟩ := hl; Heap.lt_size e
  have vals : ∀ (i : Nat) (v : Value), its[i]? = some v → ∃ k t, ns[i]? = some k ∧ v = .int k t := fun i v hv => by
    have lt : i < ns.length := hz ▸ (Array.getElem?_eq_some_iff.mp hv).1
    obtain ⟨t, e⟩ := PyProof.Rows.IntsAre.int_at hi i v (by rw [Array.getElem?_toList]; exact hv)
    refine ⟨ns[i], t, List.getElem?_eq_getElem lt, ?_⟩
    rw [e, List.getD_eq_getElem?_getD, List.getElem?_eq_getElem lt] <;> rfl
  have apart : S ∉ [s.heap.objs.size, l] := by
    simp only [List.mem_cons, List.not_mem_nil, or_false, not_or]
    exact ⟨Nat.ne_of_lt ltS, hn⟩
  refine set_update_ints (P := P) (w := w) ((Walks.list (A := A.in1) (by simp [up]) s.heap.objs.size l (Nat.ne_of_lt ltL) its).toS) S apart ns hz few vals _ 0 _ rfl (Nat.zero_le _) ⟨⟨_, Heap.get?_push_size _ rfl, rfl, rfl⟩, hl.push _⟩ ⟨0, Nat.le_refl 0, setR_new_at (Heap.get?_push_of_some _ hS)⟩ fun s2 c mv hc hR => ?_
  obtain ⟨h2, g2, d2, t2, o2⟩ := s2
  obtain rfl : g2 = s.gens := mv.gens
  obtain rfl : d2 = s.drawn := mv.drawn
  obtain rfl : o2 = s.os := mv.os
  refine h h2 t2 c hR (hz ▸ hc) fun b o nb e => ?_
  have lt := Heap.lt_size e
  refine mv.heap b o ?_ (Heap.get?_push_of_some _ e)
  simp only [List.mem_cons, List.not_mem_nil, or_false, not_or]
  exact ⟨nb, Nat.ne_of_lt lt⟩
set_option maxHeartbeats 8000000 in
/-- set(xs) -/
theorem set_call (up : A.handled = none) (hl : s.heap.IsList l its) (hi : IntsAre its.toList ns) (few : ns.length + 1 < scanBound) {Q : Value → Shared → Prop}
    (h : ∀ (h' : Heap) (tk c : Nat), SetR w h' s.heap.objs.size (fun j => decide (j ∈ ns)) c → c ≤ ns.length → (∀ b o, s.heap.get? b = some o → h'.get? b = some o) → Q (.ref s.heap.objs.size) { s with heap := h', toks := tk }) :
    wpAny (model P w) A (call (.type "set") [.ref l]) Q E s := by
  obtain ⟨cc, tl, mro⟩ := F.called_set.mro
  have k1 := F.called_set.made
  have k2 := F.called_set.sub
  have k3 := F.called_set.notType
  have k4 := F.called_set.canCreate
  have k5 := F.typeCall_set_1 (.ref l)
  refine wpAny_call (codeAny_of_tree (show wpAny _ _ (callAny (.type "set") _) _ _ _ from wpAny_pure ⟨Code.quiet_builtin _ (by decide +kernel), codeAny_builtin F.entry_type_call ?_⟩))
  rw [Around.under_plain (weight_type_call_type "set" [.ref l] []) rfl]
  repeat (any_goals (first | assumption | wp_step))
  refine codeAny_mono (code_set_led1 (w := w) (.ref l) (E := E) (Q₁ := fun u t => u = .ref s.heap.objs.size ∧ t = { s with heap := s.heap.push (setE w) }) ⟨rfl, rfl⟩) fun r t hr => ?_
  rcases r with e | f
  · exact hr
  rcases f with _ | _ | _ | u <;> first | exact hr.elim | skip
  obtain ⟨rfl, rfl⟩ := hr
  have new : (s.heap.push (setE w)).get? s.heap.objs.size = some (setE w) := Heap.get?_push_size _ rfl
  have ty : Shared.TypeIs { s with heap := s.heap.push (setE w) } (.ref s.heap.objs.size) "set" := ⟨_, new, rfl⟩
  have k6 := F.called_set.init.lookup
  have k7 := F.called_set.init.bind (.ref s.heap.objs.size)
  repeat (any_goals (first | assumption | wp_step))
  refine codeAny_mono (codeAny_call_builtin (R := wants (fun u t => u = .none ∧ ∃ h' tk c, t = { s with heap := h', toks := tk } ∧ SetR w h' s.heap.objs.size (fun j => decide (j ∈ ns)) c ∧ c ≤ ns.length ∧ ∀ b o, s.heap.get? b = some o → h'.get? b = some o) E) F.called_set.init.plain F.entry_set_init (check_set_init_1 ty ?_)) fun r t hr => ?_
  · obtain ⟨⟨oc, od, oda, os⟩, ho, hc, nl, hd⟩ := hl
    simp only at hc hd
    subst hc hd
    have ltL := Heap.lt_size ho
    have ho' := Heap.get?_push_of_some (setE w) ho
    have n1 := F.sub_list_set
    have n2 := F.sub_list_frozenset
    have n3 : (Value.type "list" == Value.type "dict") = false := by decide
    have hl1 : (s.heap.push (setE w)).IsList l its := ⟨_, ho', rfl, nl, rfl⟩
    unfold Builtin.«set.__init__» noKeywords Builtin.Frozenset.updateFrom
    generalize hPI : pyIter = PI
    wp_walk
    subst hPI
    refine wpAny_pyIter_list hl1 (wpAny_bind (wpAny_runValue ?_))
    refine set_fill (s := { s with heap := s.heap.push (setE w) }) (by simp [up]) new hl1 (Nat.ne_of_gt ltL) hi few fun h2 tk c hR hcn keep => ?_
    show wpAny _ _ _ _ _ _
    refine wpAny_pure ?_
    show wpAny _ _ (ret Value.none) _ _ _
    exact wpAny_pure ⟨rfl, h2, tk, c, rfl, hR, hcn, fun b o e => keep b o (Nat.ne_of_lt (Heap.lt_size e)) (Heap.get?_push_of_some _ e)⟩
  · rcases r with e | f
    · exact hr
    rcases f with _ | _ | _ | u <;> first | exact hr.elim | skip
    obtain ⟨rfl, h', tk, c, rfl, hR, hcn, keep⟩ := hr
    repeat (any_goals (first | assumption | wp_step))
    exact h _ _ _ hR hcn keep
end
end Z
/-! Y5: sorted(set(xs)), range(a, b, -1), d.get(k, x). -/
namespace Z
open PySem PySem.Spec PyProof.Rows L2
/-! ### sorted(set(xs)) -/
section
variable {X : Cx}
def rSetI (K : PySem.W.Frag) (w : World) : List V → Hp → VK → Prop := fun vs H Q => ∃ (l : Addr) (ns : List Int), vs = [V.ref l] ∧ SqL K H l (ns.map V.int) ∧ ns.length < 63 ∧ ∀ a c, H a = none → c ≤ ns.length → Q (.ref a) (upd H a (SetO w a (fun j => decide (j ∈ ns)) c))
theorem cr_setI (calm : X.calm = true) : CallR X (.type "set") (rSetI X.K X.w) := by
  intro pins s σ H vs us Q I r h
  obtain ⟨l, ns, rfl, hl, few, q⟩ := h
  rw [Vals.ref1 r]
  obtain ⟨its, rv, pl, _⟩ := I.list hl
  refine set_call (P := X.prog) (w := X.w) (ns := ns) (I.ok.hd calm) pl.isList (by simpa using rv.ints) (by unfold scanBound; omega) fun h' tk c hR hc keep => ?_
  exact ⟨.ref _, _, I.laid (t' := tk) keep (Nat.le_refl _) (setO_new hR), rfl, q _ c (I.hok.fresh (Nat.le_refl _)) hc⟩
theorem Gro.loose {F H : Hp} {ro : List Addr} {D : Addr} (hD : H D = none) (o : HO) : Gro F ro H F ro (upd H D o) :=
  ⟨Same.refl _, ⟨[], by simp, fun _ h => nomatch h⟩, fun a x q1 q2 => ⟨by rw [upd_ne (ne_of_none q1 hD)]; exact q1, rfl⟩, fun a q1 => by
    by_cases z : a = D
    · rw [z, upd_same]; simp
    · rw [upd_ne z]; exact q1⟩
/-- sorted(set(xs)) -/
def dSortSet (mu : Bool) (t : AE) : AE := fun E m Q => t E m fun u m1 => match asI m1 u with
  | some l => l.length < 63 ∧ ∀ l' : List Int, l'.Pairwise (· < ·) → (∀ k, k ∈ l' ↔ k ∈ l) → nw mu (l'.map .int) m1 Q
  | none => False
theorem de_sortSet (mu : Bool) {e : Expr} {f : AE} {p1 p2 q pos : Pos} (calm : X.calm = true) (hm : X.mg "sorted" = none) (hm2 : X.mg "set" = none) (he : DE X e f) (hg : Gl X "sorted" := by rfl) (hg2 : Gl X "set" := by rfl)
    (s1 : starEach [.Call (.Name "set" p2) [e] [] q] X.env = (false, eval (.Call (.Name "set" p2) [e] [] q) X.env) :: starEach [] X.env := by rfl) (s2 : starEach [e] X.env = (false, eval e X.env) :: starEach [] X.env := by rfl)
    (t1 : (backTo pos (starEach [] X.env)).any (·.1) = false := by rfl) (t2 : (backTo q (starEach [] X.env)).any (·.1) = false := by rfl) :
    DE X (.Call (.Name "sorted" p1) [.Call (.Name "set" p2) [e] [] q] [] pos) (dSortSet mu f) :=
  pe_imp (pe_callB (cr_sortedSet calm) hg hm bt_sorted (pa_cons (pe_callTy (cr_setI calm) hg2 hm2 bt_set (da_cons he da_nil s2) (by decide) (by decide) s2 t2) pa_nil s1) (by decide) (by decide) s1 t1) fun σ H Q ⟨F, ro, E, m, Qa, cm, ce, hf, p⟩ => by
    refine ⟨F, ro, E, m, fun us m1 => (match us with
      | [u] => (match asI m1 u with
        | some l => l.length < 63 ∧ ∀ l' : List Int, l'.Pairwise (· < ·) → (∀ k, k ∈ l' ↔ k ∈ l) → nw mu (l'.map .int) m1 Qa
        | none => False)
      | _ => False), cm, ce, hf, fun F1 ro1 H1 us vs m1 g1 c1 i1 h1 => ?_⟩
    have h1' := h1
    dsimp only at h1'
    split at h1'
    · rename_i u
      obtain ⟨v, rfl, iv⟩ := iu1 i1
      split at h1'
      · rename_i l el
        obtain ⟨a, rfl, hs⟩ := asI_sq c1 iv el
        refine ⟨a, l, rfl, hs, h1'.1, fun D c hD hc => ?_⟩
        obtain ⟨n1, n2⟩ := c1.new hD
        refine ⟨D, _, c, rfl, upd_same, by omega, fun ms b pw mem len hb => ?_⟩
        exact ((p.at g1).at (Gro.loose hD _)).nw (c1.loose n1 n2 _) mu (IsDs.of_ints ms) (h1'.2 ms pw fun k => (mem k).trans (by simp)) b hb
      · exact h1'.elim
    · exact h1'.elim
end
/-! ### range(a, b, -1) -/
def downU (hi : Int) (n : Nat) : List U := (List.range n).map fun (i : Nat) => U.v (.int (hi - (i : Int)))
theorem down_ok {K : PySem.W.Frag} {F H : Hp} {ro : List Addr} (lo : Int) (n : Nat) : ItOk K F ro H (Itc lo (-1) n) (downU lo n) fun _ => True := by
  have hl : (downU lo n).length = n := by simp [downU]
  refine ⟨fun i F' ro' H' m' g c' gd hi => ?_, fun F' ro' H' m' g c' gd => ?_, fun i w F' ro' H' m' x H2 g c' gd hw hy => ?_⟩
  · show i < n
    omega
  · show n ≤ _
    omega
  · obtain ⟨rfl, rfl⟩ := hy
    unfold downU at hw
    rw [List.getElem?_map] at hw
    obtain ⟨dd, e1, e2⟩ := Option.map_eq_some_iff.mp hw
    obtain ⟨_, e3⟩ := List.getElem?_eq_some_iff.mp e1
    simp at e3
    subst e3 e2
    have e4 : lo - (i : Int) = lo + (i : Int) * (-1) := by omega
    rw [e4]
    exact ⟨F', c', Gro.refl, .int _⟩
def sRngD (t : AA) : AI := fun E m R => t E m fun us m1 => match us with
  | [.v (.int i), .v (.int j), .v (.int c)] => c = -1 ∧ (-4611686018427387904 ≤ i ∧ i < 4611686018427387904 ∧ -4611686018427387904 ≤ j ∧ j < 4611686018427387904) ∧ R (downU i (i - j).toNat) (fun _ => True) m1
  | _ => False
theorem iu3 {K : PySem.W.Frag} {F : Hp} {ro : List Addr} {u w x : U} {vs : List V} (h : IsUs K F ro [u, w, x] vs) : ∃ a b c, vs = [a, b, c] ∧ IsU K F ro u a ∧ IsU K F ro w b ∧ IsU K F ro x c := by
  cases h with
  | cons h1 t =>
    cases t with
    | cons h2 t =>
      cases t with
      | cons h3 t =>
        cases t
        exact ⟨_, _, _, rfl, h1, h2, h3⟩
section
variable {X : Cx}
theorem di_rngD {tg a b c : Expr} {g : AA} {p pos : Pos} (hm : X.mg "range" = none) (ha : DA X [a, b, c] g) (hg : Gl X "range" := by rfl) (hs : starEach [a, b, c] X.env = (false, eval a X.env) :: starEach [b, c] X.env := by rfl) (hpl : (backTo pos (starEach [b, c] X.env)).any (·.1) = false := by rfl) :
    DI X tg (.Call (.Name "range" p) [a, b, c] [] pos) (sRngD g) :=
  pi_imp (pi_range3 hg hm ha hs hpl) fun σ H R ⟨F, ro, E, m, Ra, c, ce, hf, p⟩ =>
    ⟨F, ro, E, m, _, c, ce, hf, fun F1 ro1 H1 us vs m1 g1 c1 i1 h1 => by
      revert h1
      split
      · rintro ⟨rfl, hb, h1⟩
        obtain ⟨v, w, x, rfl, i2, i3, i4⟩ := iu3 i1
        cases i2; cases i3; cases i4
        exact ⟨_, _, _, _, rfl, RgC.neg (by omega) (by omega) (by omega) (by omega), p F1 ro1 H1 _ _ m1 _ g1 c1 (down_ok _ _) h1⟩
      · exact fun h => h.elim⟩
end
/-! ### d.get(k, x) -/
def dGet2 (td ty tx : AE) : AE := fun E m Q => td E m fun u m1 => (asK m1 u).isSome = true ∧ ty E m1 fun w m2 => tx E m2 fun x m3 => match asK m3 u, w, x with
  | some l, .v key, .v dd => (match keyOf key with
    | some _ => Q (.v ((lookD l key).getD dd)) m3
    | none => False)
  | _, _, _ => False
section
variable {X : Cx} {o i e : Expr} {fo fi fe : AE} {apos cpos : Pos}
theorem de_get2 (hu : X.A.units + 1 < cLine) (ho : DE X o fo) (hi : DE X i fi) (he : DE X e fe) (m : M2 X o "get" apos i e cpos := by exact ⟨by rfl, by rfl, by rfl, by rfl⟩) : DE X (.Call (.Attribute o "get" apos) [i, e] [] cpos) (dGet2 fo fi fe) :=
  pe_imp (pe_dget2 hu ho hi he m) fun σ H Q ⟨F, ro, E, m, Qa, cm, ce, hf, p⟩ =>
    ⟨F, ro, E, m, _, cm, ce, hf, fun F1 ro1 H1 u v m1 g1 c1 i1 h1 => by
      obtain ⟨hs, h1⟩ := h1
      obtain ⟨l0, el0⟩ := Option.isSome_iff_exists.mp hs
      obtain ⟨a, kvs, rfl, hx, hd⟩ := asK_own c1 i1 el0
      refine ⟨a, rfl, .inl ⟨kvs, .inl hx⟩, F1, ro1, E, m1, _, c1, ce.mono g1, h1, fun F2 ro2 H2 w y m2 g2 c2 i2 h2 => ⟨F2, ro2, E, m2, _, c2, ce.mono (g1.trans g2), h2, fun F3 ro3 H3 x z m3 g3 c3 i3 h3 => ?_⟩⟩
      revert h3
      split
      · rename_i l key dd el
        split
        · rename_i k ek
          intro h3
          obtain ⟨a2, kvs2, e0, hd2, e1, e2, hg⟩ := dget_of c3 (i1.mono (g2.trans g3)) el (i2.mono g3) ek
          cases e0
          refine ⟨_, hg, ?_⟩
          have hl := IsDk.look (k := k) hd2
          rw [← e2] at hl
          cases q : lookD l key with
          | none =>
            rw [q] at hl h3
            have hl2 : valV kvs2 k = none := hl
            rw [hl2]
            exact (p.at (g1.trans (g2.trans g3))).god c3 i3 h3
          | some d =>
            rw [q] at hl h3
            obtain ⟨v, ev, iv⟩ := hl
            rw [ev]
            exact (p.at (g1.trans (g2.trans g3))).god c3 iv h3
        · exact fun h => h.elim
      · exact fun h => h.elim⟩
end
end Z
/-! Y6: xs[::step], the step computed: 1 or -1. -/
namespace Z
open PySem PySem.Spec PyProof.Rows L2
theorem range_one (n : Nat) : sliceRange 0 (n : Int) 1 = List.range n := by
  unfold sliceRange
  by_cases h : (0 : Int) < (n : Int)
  · have e : ((n : Int) - 0 + 1 - 1) / 1 = (n : Int) := by rw [Int.ediv_one]; omega
    simp only [h, if_true, e, Int.toNat_natCast, show ((1 : Int) > 0) by decide]
    conv => rhs; rw [← List.map_id (List.range n)]
    apply List.map_congr_left
    intro k hk
    simp
  · have e : n = 0 := by omega
    subst e
    simp
theorem pick_one (items : Array Value) : slicePick items none none (some 1) = items := by
  unfold slicePick
  have e : sliceBounds none none (some 1) items.size = (0, (items.size : Int), 1) := by first | rfl | simp [sliceBounds]
  rw [e]
  show ((sliceRange 0 (items.size : Int) 1).filterMap (items[·]?)).toArray = _
  rw [range_one]
  have e2 : (List.range items.size).filterMap (items[·]?) = items.toList := by
    apply List.ext_getElem?
    intro i
    have := PySem.W.krv_all items
    rw [this]
  rw [e2]
section
variable {X : Cx}
def tStepL (K : PySem.W.Frag) (te ts : TE) : TE := fun σ H Q => te σ H fun x H1 => ∃ a, x = .ref a ∧ tPart ts σ H1 fun o H2 => ∃ c xs, o = some c ∧ (c = 1 ∨ c = -1) ∧ SqL K H2 a xs ∧ ∀ p, H2 p = none → Q (.ref p) (upd H2 p (.lst (if c = 1 then xs else xs.reverse)))
theorem pe_stepL {e st : Expr} {te ts : TE} {p3 pos : Pos} (he : PE X e te) (hs : PE X st ts) : PE X (.Subscript e (.Slice none none (some st) p3) pos) (tStepL X.K te ts) := by
  refine ⟨fun pins s σ H Q I h => Subscript_ (thn (he.run pins s σ H _ I h) fun v t ⟨x, H1, J, rx, a, ex, q⟩ => ?_)⟩
  subst ex
  cases rx
  refine wpAny_Slice (thn (po_none.run pins t σ H1 (fun o G => o = none ∧ G = H1) J ⟨rfl, rfl⟩) fun lo t1 ⟨o1, G1, J1, pa, e1, e2⟩ => ?_)
  subst e1 e2
  refine thn (po_none.run pins t1 σ G1 (fun o G => o = none ∧ G = G1) J1 ⟨rfl, rfl⟩) fun hi t2 ⟨o2, G2, J2, pb, e1, e2⟩ => ?_
  subst e1 e2
  refine thn ((po_some hs).run pins t2 σ G2 (fun o G => ∃ c xs, o = some c ∧ (c = 1 ∨ c = -1) ∧ SqL X.K G a xs ∧ ∀ p, G p = none → Q (.ref p) (upd G p (.lst (if c = 1 then xs else xs.reverse)))) J2 q) fun sv t3 ⟨o3, G3, J3, pc, c, xs, e1, hc, hx, qq⟩ => ?_
  subst e1
  have J4 : Inv X pins σ G3 { t3 with heap := t3.heap.push { cls := .type "slice", data := .fields #[lo, hi, sv] } } := J3.kept (t' := t3.toks) fun b ob q => Heap.get?_push_of_some _ q
  obtain ⟨its, r, ht, hz⟩ := J4.list hx
  have hlen := r.length
  show wpAny (model X.prog X.w) X.A (subscriptTail e (.Slice none none (some st) p3) (.ref a) (.ref t3.heap.objs.size)) (EP X pins σ Q) X.xe _
  refine tail_any (ops := [.ref a, .ref t3.heap.objs.size]) ht.isList.typeIs (PySem.slot_list_getitem.lookup) ?_ (by with_unfolding_all rfl)
  refine wpAny_getItem_list_slice ht.isList (Heap.IsSliceOf.new _ lo hi sv) pa pb pc (by rcases hc with rfl | rfl <;> decide) ?_ (by rw [List.size_toArray]; omega)
  rcases hc with rfl | rfl
  · rw [pick_one]
    refine ⟨.ref _, _, J4.laid (t' := t3.toks) (o := .lst xs) (fun b ob q => Heap.get?_push_of_some _ q) (Nat.le_refl _) ⟨hz, _, 0, r, Heap.get?_push_size _ rfl⟩, rfl, qq _ (J4.hok.fresh (Nat.le_refl _))⟩
  · rw [PySem.W.krv_pick]
    refine ⟨.ref _, _, J4.laid (t' := t3.toks) (o := .lst xs.reverse) (fun b ob q => Heap.get?_push_of_some _ q) (Nat.le_refl _) ⟨by rw [List.length_reverse]; exact hz, _, 0, r.reverse, Heap.get?_push_size _ rfl⟩, rfl, qq _ (J4.hok.fresh (Nat.le_refl _))⟩
/-- xs[::step] -/
def dStep (mu : Bool) (ta ts : AE) : AE := fun E m Q => ta E m fun u m1 => (asL m1 u).isSome = true ∧ ts E m1 fun w m2 => match w with
  | .v (.int c) => (c = 1 ∨ c = -1) ∧ (match asL m2 u with
    | some l => nw mu (if c = 1 then l else l.reverse) m2 Q
    | none => False)
  | _ => False
theorem de_step (mu : Bool) {e st : Expr} {f g : AE} {p3 pos : Pos} (he : DE X e f) (hs : DE X st g) : DE X (.Subscript e (.Slice none none (some st) p3) pos) (dStep mu f g) :=
  pe_imp (pe_stepL he hs) fun σ H Q ⟨F, ro, E, m, Qa, cm, ce, hf, p⟩ =>
    ⟨F, ro, E, m, _, cm, ce, hf, fun F1 ro1 H1 u v m1 g1 c1 i1 h1 => by
      obtain ⟨hs, h1⟩ := h1
      obtain ⟨l0, el0⟩ := Option.isSome_iff_exists.mp hs
      obtain ⟨a, _, rfl, _, _⟩ := asL_sq c1 i1 el0
      refine ⟨a, rfl, F1, ro1, E, m1, _, c1, ce.mono g1, h1, fun F2 ro2 H2 w y m2 g2 c2 i2 h2 => ?_⟩
      revert h2
      split
      · rename_i c
        rintro ⟨hc, h2⟩
        cases i2
        revert h2
        split
        · rename_i l el
          intro h2
          obtain ⟨b, xs, eb, r, d⟩ := asL_sq c2 (i1.mono g2) el
          cases eb
          refine ⟨c, rfl, c, xs, rfl, hc, Or.inl r, ?_⟩
          refine (p.at (g1.trans g2)).nw c2 mu (l := if c = 1 then l else l.reverse) ?_ h2
          split
          · exact d
          · exact d.reverse
        · exact fun h => h.elim
      · exact fun h => h.elim⟩
end
/-! ### repr([a, b]), cells too -/
def asDs (m : Sto) : List U → Option (List PyData)
  | [] => some []
  | u :: us => match asD m u, asDs m us with
    | some d, some l => some (d :: l)
    | _, _ => none
theorem asDs_is {K : PySem.W.Frag} {F H : Hp} {ro : List Addr} {m : Sto} (c : ConM K F ro H m) : ∀ {us : List U} {vs : List V} {l : List PyData}, IsUs K F ro us vs → asDs m us = some l → IsDs K H vs l
  | [], _, _, h, e => by
    cases h
    cases e
    exact .nil
  | u :: us, _, _, h, e => by
    cases h with
    | cons h1 h2 =>
      simp only [asDs] at e
      split at e
      · rename_i d l e1 e2
        cases e
        exact .cons (asD_is c h1 e1) (asDs_is c h2 e2)
      · cases e
def dReprL (t : AA) : AE := fun E m Q => t E m fun us m1 => match asDs m1 us with
  | some l => l.length ≤ sizeLine ∧ (PyData.list l).showable = true ∧ (PyData.list l).depth ≤ 64 ∧ (PyData.list l).shown.length ≤ sizeLine ∧ Q (.v (.str (PyData.list l).shown)) m1
  | none => False
section
variable {X : Cx}
theorem de_reprL {es : List Expr} {g : AA} {p lpos pos : Pos} (hr : X.A.units + 66 < cLine) (hgd : X.A.guards = some []) (hm : X.mg "repr" = none) (h : DA X es g) (hg : Gl X "repr" := by rfl)
    (s1 : starEach [.List es lpos] X.env = (false, eval (.List es lpos) X.env) :: starEach [] X.env := by rfl) (t1 : (backTo pos (starEach [] X.env)).any (·.1) = false := by rfl) :
    DE X (.Call (.Name "repr" p) [.List es lpos] [] pos) (dReprL g) :=
  pe_imp (pe_callB (call_reprX hr hgd) hg hm bt_repr (pa_cons (pe_lst h) pa_nil s1) (by decide) (by decide) s1 t1) fun σ H Q ⟨F, ro, E, m, Qa, cm, ce, hf, p⟩ =>
    ⟨F, ro, E, m, _, cm, ce, hf, fun F1 ro1 H1 us vs m1 g1 c1 i1 h1 => by
      revert h1
      dsimp only
      split
      · rename_i l el
        rintro ⟨hz, h2, h3, h4, q⟩
        have hd := asDs_is c1 i1 el
        refine ⟨by rw [hd.length]; exact hz, fun D hD => ?_⟩
        obtain ⟨n1, n2⟩ := c1.new hD
        have sm : Same H1 (upd H1 D (.lst vs)) := fun a u e => by rw [upd_ne (ne_of_none e hD)]; exact e
        exact ⟨_, .list l, rfl, .lst upd_same (IsDs.mono sm hd), h2, h3, h4, ((p.at g1).at (Gro.loose hD _)).god (c1.loose n1 n2 _) (.str _) q⟩
      · exact fun h => h.elim⟩
end
end Z
/-! Y7: set comprehensions of ints. -/
namespace Z
open PySem PySem.Spec PyProof.Rows L2
section
variable {X : Cx}
/-- one item of a set comprehension: N is wanted behind it -/
def ScStep (w : World) (g : TG) (tt : TT) (te : TE) (τ : L2.St) (vs : List Nat) (D : Addr) (x : V) (H : Hp) (N : Hp → Prop) : Prop :=
  g x τ H fun τ2 H2 => wipe τ2 vs = τ ∧ tt τ2 H2 fun b H3 => if b = true then te τ2 H3 fun y H4 => ∃ (k : Int) (S : Int → Bool) (n : Nat), y = .int k ∧ H4 D = some (SetO w D S n) ∧ n + 1 < scanBound ∧ N (upd H4 D (SetO w D (fun j => S j || decide (j = k)) (if S k = true then n else n + 1))) else N H3
def tSetc (w : World) (wi : TI) (g : TG) (tt : TT) (te : TE) (vs : List Nat) : TE := fun σ H Q => wi σ H fun J H1 => ∀ D, H1 D = none → ∃ W : Nat → Nat → Hp → Prop, (∃ m, W 0 m (upd H1 D (SetO w D (fun _ => false) 0))) ∧
  ∀ i m G, W i m G → (J.stop i G ∧ Q (.ref D) G) ∨ (J.go i G ∧ ∃ N : Hp → Prop, (∀ G', N G' → ∃ m', m' < m ∧ W (i + 1) m' G') ∧ ∀ x G', J.yld i G x G' → ScStep w g tt te (wipe σ vs) vs D x G' N)
/-- set.add of an int -/
theorem add_int {pins : List (Addr × Obj)} {σ : L2.St} {H : Hp} {s : Shared} {E : Value → Shared → Prop} {D : Addr} {S : Int → Bool} {n : Nat} {k : Int} {tk : Tok} {Q : Value → Shared → Prop} (I : Inv X pins σ H s) (hD : H D = some (SetO X.w D S n)) (few : n + 1 < scanBound)
    (q : ∀ t, Inv X pins σ (upd H D (SetO X.w D (fun j => S j || decide (j = k)) (if S k = true then n else n + 1))) t → Q .none t) : wpAny (model X.prog X.w) X.A (call (.builtin "set.add") [.ref D, .int k tk]) Q E s :=
  setR_add (setO_get I hD) few fun h' sb new => q _ (I.write (e := D) (t' := s.toks + 1) (by rw [hD]; trivial) (.inl rfl) (fun b u ne e => (sb.2 b ne).trans e) (let ⟨o, _, _, _, ho, _⟩ := new; ⟨o, ho⟩) (setO_new new))
/-- the turns of the loop, within the block -/
theorem setc_turns {pins : List (Addr × Obj)} {σ : L2.St} {H3 : Hp} {s3 s4 : Shared} {Q : VK} {elt tg iter : Expr} {ifs : List Expr} {scope : Scope} {own : List (PySem.Str × Nat)} {pos : Pos} {g : TG} {tt : TT} {te : TE} {R : Result → Shared → Prop} {ce : Env} {fp : List Addr} {D : Addr} {J : It} {tn : Nat → Heap → Prop} {it : Addr} {W : Nat → Nat → Hp → Prop} {m0 : Nat}
    (hc : X.calm = true) (T : Turn X.prog X.w X.K tg J fp it tn) (pg : PG (X.blk s3 H3 scope ce fp) tg g) (pt : PTs (X.blk s3 H3 scope ce fp) ifs tt) (pe : PE (X.blk s3 H3 scope ce fp) elt te)
    (turn : ∀ i m G, W i m G → (J.stop i G ∧ Q (.ref D) G) ∨ (J.go i G ∧ ∃ N : Hp → Prop, (∀ G', N G' → ∃ m', m' < m ∧ W (i + 1) m' G') ∧ ∀ x G', J.yld i G x G' → ScStep X.w g tt te (wipe σ (own.map (·.2))) (own.map (·.2)) D x G' N))
    (I4 : Inv (X.blk s3 H3 scope ce fp) [] (wipe σ (own.map (·.2))) H3 s4) (st4 : tn 0 s4.heap) (nfp : ∀ b ∈ fp, H3 b = none) (w0 : W 0 m0 H3)
    (hEnd : ∀ G t, Inv (X.blk s3 H3 scope ce fp) [] (wipe σ (own.map (·.2))) G t → Q (.ref D) G → R (.ok .next) t) :
    codeAny (model X.prog X.w) X.A (.compLoop (.SetComp elt [⟨tg, iter, ifs, 0⟩] scope pos) 0 (.ref it) (.ref D) ce) R s4 := by
  have still : ∀ {τ : L2.St} {G : Hp} {t : Shared}, Inv (X.blk s3 H3 scope ce fp) [] τ G t → (∀ b ∈ fp, G b = none) → ∀ b ∈ fp, FpOk (X.blk s3 H3 scope ce fp) [] G b := fun J hn b hb =>
    ⟨hn b hb, (J.ok.exf b hb).1, J.ok.exfs b hb, .inl hb, fun x c e => (J.ok.exf b hb).2 x c e, fun p hp => absurd (show p ∈ ([] : List (Addr × Obj)) from hp) (by simp)⟩
  refine PpSet.compLoopS_any (fun n t => ∃ i G, Inv (X.blk s3 H3 scope ce fp) [] (wipe σ (own.map (·.2))) G t ∧ tn i t.heap ∧ (∀ b ∈ fp, G b = none) ∧ W i n G) (fun n t ⟨i, G, J5, a5, n5, w5⟩ => ?_) m0 ⟨0, H3, I4, st4, nfp, w0⟩
  rcases turn i n G w5 with ⟨stop, qq⟩ | ⟨go, N, less, step⟩
  · refine thnF (T.done (X.blk s3 H3 scope ce fp) rfl rfl rfl hc i [] t _ G (fun _ _ => False) J5 (still J5 n5) a5 stop) fun r t1 ⟨er, J6⟩ => ?_
    subst er
    exact hEnd G t1 J6 qq
  · refine thnF (T.item (X.blk s3 H3 scope ce fp) rfl rfl rfl hc i [] t _ G (fun _ _ => False) J5 (still J5 n5) a5 go) fun r t1 ⟨u, er, h1⟩ => ?_
    subst er
    refine thnF h1 fun _ t2 ⟨x, G2, J2, r2, y2, a2, n2⟩ => ?_
    have J2' := J2.pinned (still J2 n2) (T.obj _ _ a2)
    refine thnF (pg.run _ t2 _ G2 x u _ J2' r2 (step x G2 y2)) fun _ t3 ⟨τ3, G3, J3, ew, q3⟩ => ?_
    refine thnF (pt.run _ t3 τ3 G3 _ J3 q3) fun b t4 ⟨G4, J4, q4⟩ => ?_
    have over : ∀ {t' : Shared} {G' : Hp}, Inv (X.blk s3 H3 scope ce fp) ([] ++ pinsAt fp t2.heap) τ3 G' t' → N G' → ∃ m, m < n ∧ ∃ i G, Inv (X.blk s3 H3 scope ce fp) [] (wipe σ (own.map (·.2))) G t' ∧ tn i t'.heap ∧ (∀ b ∈ fp, G b = none) ∧ W i m G := fun {t' G'} J' hN => by
      obtain ⟨m', lt, w'⟩ := less G' hN
      have at_ : ∀ b ∈ fp, ∀ o, t2.heap.get? b = some o → t'.heap.get? b = some o ∧ G' b = none := fun b hb o e =>
        let z := J'.pin (b, o) (List.mem_append_right _ (List.mem_append_right _ (mem_pinsAt hb e)))
        ⟨z.1, z.2.1⟩
      refine ⟨m', lt, i + 1, G', (J'.unpinned (pins := [])).weak (by rw [← ew, wipe_length]) (fun j v e => ?_), T.keep _ _ _ a2 fun b hb o e => (at_ b hb o e).1, fun b hb => ?_, w'⟩
      · rw [← ew] at e
        exact (wipe_some e).1
      · obtain ⟨o, e, _⟩ := T.obj _ _ a2 b hb
        exact (at_ b hb o e).2
    cases b with
    | false =>
      simp only [Bool.false_eq_true, if_false] at q4 ⊢
      exact over J4 q4
    | true =>
      simp only [if_true] at q4 ⊢
      refine thnF (pe.run _ t4 τ3 G4 _ J4 q4) fun z t5 ⟨y, G5, J5, r5, k, S, c, ey, hD, few, hN⟩ => ?_
      subst ey
      obtain ⟨tk, rfl⟩ := r5
      exact add_int (X := X.blk s3 H3 scope ce fp) J5 hD few fun t6 J6 => over J6 hN
/-- {elt for tg in iter if ..}, elt an int -/
theorem pe_setc {elt tg iter : Expr} {ifs : List Expr} {scope : Scope} {own : List (PySem.Str × Nat)} {pos : Pos} {wi : TI} {g : TG} {tt : TT} {te : TE} (hc : X.calm = true) (nd : X.N.Nodup) (pi : PI X tg iter wi) (bk : BlkOk X.N X.env.scope scope own)
    (fg : ∀ (t : Shared) (G : Hp) (b : Addr) (cl : List (PySem.Str × Addr)) (fp : List Addr), PG (X.blk t G scope (compEnvC scope cl b X.env) fp) tg g)
    (ft : ∀ (t : Shared) (G : Hp) (b : Addr) (cl : List (PySem.Str × Addr)) (fp : List Addr), PTs (X.blk t G scope (compEnvC scope cl b X.env) fp) ifs tt)
    (fe : ∀ (t : Shared) (G : Hp) (b : Addr) (cl : List (PySem.Str × Addr)) (fp : List Addr), PE (X.blk t G scope (compEnvC scope cl b X.env) fp) elt te)
    (flat : ∀ v, foldedSetIterable iter X.env v = pure v := by intro _; rfl) : PE X (.SetComp elt [⟨tg, iter, ifs, 0⟩] scope pos) (tSetc X.w wi g tt te (own.map (·.2))) := by
  refine ⟨fun pins s σ H Q I h => ?_⟩
  rw [PpSet.eval_SetComp]
  have freed : ∀ n ∈ scope.names, n.2 = .free → ∃ c, X.env.cells.lookup n.1 = some c := fun n hn e => (bk.free n hn e).elim (fun k => I.ok.has _ (.inl k)) fun k => I.ok.has _ (.inr k)
  refine wpAny_comprehension_free (use := none) rfl flat (closure_ok freed) bk.kind (fun n hn e => by rw [bk.uniq n hn, e]) (thn (pi.run pins s σ H _ I h) fun v0 t1 h1 => thn h1 fun v1 t2 h2 => ?_)
  obtain ⟨it, fp, tn, J, G2, ev, I2, T, a2, ff, hq⟩ := h2
  subst ev
  refine PpSet.newSet_ok (newEnv_comp ?_)
  obtain ⟨D, eD⟩ : ∃ D, t2.heap.objs.size = D := ⟨_, rfl⟩
  rw [eD]
  obtain ⟨W, ⟨m0, w0⟩, turn⟩ := hq D (I2.hok.fresh (Nat.le_of_eq eD))
  obtain ⟨t3, e3⟩ : ∃ t3 : Shared, { t2 with heap := t2.heap.push { cls := .type "set", dict := none, data := .set #[] 0 (.fresh 0 0 (!X.w.params.followText "set-order")) } } = t3 := ⟨_, rfl⟩
  obtain ⟨H3, eH⟩ : ∃ H3, upd G2 D (SetO X.w D (fun _ => false) 0) = H3 := ⟨_, rfl⟩
  have hp3 : t3.heap = t2.heap.push { cls := .type "set", dict := none, data := .set #[] 0 (.fresh 0 0 (!X.w.params.followText "set-order")) } := by rw [← e3]
  have I3 : Inv X pins σ H3 t3 := by
    rw [← e3, ← eH]
    refine I2.laid (t' := t2.toks) (fun c u e => Heap.get?_push_of_some _ e) (Nat.le_of_eq eD) ?_
    rw [← eD]
    exact setO_new (setR_fresh X.w)
  have f3 : ∀ c ∈ fp, FpOk X pins H3 c ∧ c < t3.heap.objs.size := fun c hcm => by
    obtain ⟨u, eu, _⟩ := T.obj _ _ a2 c hcm
    have lt := Heap.lt_size eu
    refine ⟨⟨?_, (ff c hcm).2⟩, by rw [hp3, Heap.size_push]; exact Nat.lt_succ_of_lt lt⟩
    rw [← eH, upd_ne (by rw [← eD]; exact Nat.ne_of_lt lt)]
    exact (ff c hcm).1
  have a3 : tn 0 t3.heap := T.keep _ _ _ a2 fun c _ u e => by rw [hp3]; exact Heap.get?_push_of_some _ e
  rw [eH] at w0
  have I4 := block_start I3 bk nd f3
  rw [e3]
  obtain ⟨C, eC⟩ : ∃ C, t3.heap.objs.size = C := ⟨_, rfl⟩
  obtain ⟨cells, ecl⟩ : ∃ cells, cellsFrom (C + 1) scope.names (cloFrom X.env.cells scope.names []) = cells := ⟨_, rfl⟩
  obtain ⟨ce, ece⟩ : ∃ ce, compEnvC scope cells C X.env = ce := ⟨_, rfl⟩
  have whole : codeAny (model X.prog X.w) X.A (.compStart (.SetComp elt [⟨tg, iter, ifs, 0⟩] scope pos) 0 (.ref it) (.ref D) ce) (compPost (model X.prog X.w) X.A X.xe none (EP X pins σ Q) (.ref D) C) { t3 with heap := pushCells (t3.heap.push { cls := .type "dict", data := .dict #[] }) scope.names } := by
    rw [eC, ecl, ece] at I4
    have lc : ce.locals = C := by rw [← ece]; rfl
    have pg := fg t3 H3 C cells fp
    have pt := ft t3 H3 C cells fp
    have pe := fe t3 H3 C cells fp
    rw [ece] at pg pt pe
    obtain ⟨t4, e4⟩ : ∃ t4 : Shared, { t3 with heap := pushCells (t3.heap.push { cls := .type "dict", data := .dict #[] }) scope.names } = t4 := ⟨_, rfl⟩
    rw [e4] at I4 ⊢
    have a4 : tn 0 t4.heap := T.keep _ _ _ a3 fun c _ u e => by rw [← e4]; exact pushCells_keeps _ _ _ _ (Heap.get?_push_of_some _ e)
    have lp : codeAny (model X.prog X.w) X.A (.compLoop (.SetComp elt [⟨tg, iter, ifs, 0⟩] scope pos) 0 (.ref it) (.ref D) ce) (compPost (model X.prog X.w) X.A X.xe none (EP X pins σ Q) (.ref D) C) t4 := by
      refine setc_turns (X := X) (pins := pins) hc T pg pt pe turn I4 a4 (fun c hcm => (f3 c hcm).1.1) w0 fun G t5 J5 qq => ?_
      have I6 : Inv X pins σ G t5 := I3.call' (ch := fp) J5.os J5.base J5.hok J5.bare fun c hcm => let ⟨_, z1, z2, z3, z4, z5⟩ := (f3 c hcm).1; ⟨z3, z1, z4, z5⟩
      have none_ : G C = none := lc ▸ J5.free
      obtain ⟨m, at_, _⟩ := J5.loc
      have at_ : t5.heap.Ns C m := lc ▸ at_
      obtain ⟨k0, k1, k2, k3, k4, k5⟩ := I3.fpOk (Nat.le_of_eq eC) none_
      exact ⟨m, at_, fun h9 sb => ⟨.ref D, G, I6.turned (t' := t5.toks) (fun c u ne e => (sb.2 c ne).trans e) k0 k1 k3 k4 k5, rfl, qq⟩⟩
    exact PpSet.codeAny_compStart_set lp (T.self X.A 0 _ _ _ a4 lp)
  rw [← ece, ← ecl, ← eC] at whole
  exact whole
end
end Z
namespace Z
open PySem PySem.Spec PyProof.Rows L2
/-! ### what is found, without addresses -/
def addK (l : List Int) (k : Int) : List Int := if k ∈ l then l else l ++ [k]
theorem addK_mem {l : List Int} {k j : Int} : j ∈ addK l k ↔ j ∈ l ∨ j = k := by
  unfold addK
  split
  · rename_i h
    exact ⟨.inl, fun z => z.elim id fun e => e ▸ h⟩
  · simp
theorem addK_len {l : List Int} {k : Int} : (if decide (k ∈ l) = true then l.length else l.length + 1) = (addK l k).length := by
  unfold addK
  by_cases h : k ∈ l <;> simp [h]
theorem addK_len_le {l : List Int} {k : Int} : (addK l k).length ≤ l.length + 1 := by
  unfold addK
  split <;> simp
/-- the turns: acc the different ints met -/
def scU (gd : Sto → Prop) (g : AG) (tt : AT) (te : AE) (E : En) (R : List Int → Sto → Prop) : List U → List Int → Sto → Prop
  | [], acc, m => gd m ∧ R acc m
  | u :: us, acc, m => gd m ∧ g u E m fun E1 m1 => tt E1 m1 fun c m2 => if c = true then te E1 m2 fun w m3 => (match w with
      | .v (.int k) => acc.length < 60 ∧ scU gd g tt te E R us (addK acc k) m3
      | _ => False) else scU gd g tt te E R us acc m2
section
variable {K : PySem.W.Frag}
/-- a thing at D that the rest does not know stays -/
theorem Gro.apart {F H F' H' : Hp} {ro ro' : List Addr} {D : Addr} {o : HO} (g : Gro F ro H F' ro' H') (q1 : H D = some o) (q2 : F D = none) (q3 : D ∉ ro) : H' D = some o ∧ F' D = none ∧ D ∉ ro' := by
  obtain ⟨z1, z2⟩ := g.fr D _ q1 q3
  refine ⟨z1, z2.trans q2, fun hm => ?_⟩
  obtain ⟨t, et, nt⟩ := g.more
  rw [et] at hm
  rcases List.mem_append.mp hm with z | z
  · exact q3 z
  · rw [nt D z] at q1; cases q1
theorem Gro.over {F H F' H' : Hp} {ro ro' : List Addr} {D : Addr} (g : Gro F ro H F' ro' H') (hD : H D = none) (o : HO) : Gro F ro H F' ro' (upd H' D o) :=
  ⟨g.ex, g.more, fun a x q1 q2 => by
    obtain ⟨w1, w2⟩ := g.fr a x q1 q2
    exact ⟨by rw [upd_ne (ne_of_none q1 hD)]; exact w1, w2⟩, fun a q1 => by
    by_cases z : a = D
    · rw [z, upd_same]; simp
    · rw [upd_ne z]; exact g.st a q1⟩
theorem setc_sim {w : World} {s : AI} {g : TG} {ga : AG} {tt : AT} {te : AE} {vs : List Nat} {σ : L2.St} {F H : Hp} {ro : List Addr} {E : En} {m : Sto} {R : List Int → Sto → Prop} {Q : VK} (hg : GOwn K g ga vs) (cm : ConM K F ro H m) (ce : ConE K F ro σ E)
    (hf : s E m fun us gd m1 => scU gd ga tt te (wipeE E vs) R us [] m1)
    (q : ∀ (F' : Hp) (ro' : List Addr) (G : Hp) (D : Addr) (S : Int → Bool) (acc : List Int) (m' : Sto), Gro F ro H F' ro' G → ConM K F' ro' G m' → G D = some (SetO w D S acc.length) → (∀ j, S j = decide (j ∈ acc)) → acc.length < 64 → R acc m' → Q (.ref D) G) :
    tSetc w (cI K s) g (cT K tt) (cE K te) vs σ H Q := by
  refine ⟨F, ro, E, m, _, cm, ce, hf, fun F1 ro1 H1 us gd m1 J g1 c1 ok h1 => ?_⟩
  intro D hD
  obtain ⟨hFD, hrD⟩ := c1.new hD
  refine ⟨fun i n H' => n = us.length - i ∧ i ≤ us.length ∧ ∃ F' ro' m' acc S, Gro F1 ro1 H1 F' ro' H' ∧ ConM K F' ro' H' m' ∧ H' D = some (SetO w D S acc.length) ∧ (∀ j, S j = decide (j ∈ acc)) ∧ acc.length < 64 ∧ F' D = none ∧ D ∉ ro' ∧ scU gd ga tt te (wipeE E vs) R (us.drop i) acc m',
    ⟨us.length, rfl, Nat.zero_le _, F1, ro1, m1, [], _, Gro.loose hD _, c1.loose hFD hrD _, upd_same, fun j => by simp, by simp, hFD, hrD, h1⟩, ?_⟩
  rintro i n H2 ⟨en, hi, F2, ro2, m2, acc, S, g2, c2, hx, hS, few, hF2, hr2, h2⟩
  by_cases hlt : i < us.length
  · rw [List.drop_eq_getElem_cons hlt] at h2
    obtain ⟨hgd, h2⟩ := h2
    refine .inr ⟨ok.go i F2 ro2 H2 m2 g2 c2 hgd hlt, fun H' => ∃ F' ro' m' acc S, Gro F1 ro1 H1 F' ro' H' ∧ ConM K F' ro' H' m' ∧ H' D = some (SetO w D S acc.length) ∧ (∀ j, S j = decide (j ∈ acc)) ∧ acc.length < 64 ∧ F' D = none ∧ D ∉ ro' ∧ scU gd ga tt te (wipeE E vs) R (us.drop (i + 1)) acc m', fun H' h => ⟨us.length - (i + 1), by omega, rfl, hlt, h⟩, fun x H3 hy => ?_⟩
    obtain ⟨F3, c3, g3, iu⟩ := ok.yld i us[i] F2 ro2 H2 m2 x H3 g2 c2 hgd (List.getElem?_eq_getElem hlt) hy
    refine hg.sim F3 ro2 H3 σ (wipeE E vs) m2 us[i] x _ _ c3 (conE_wipe (ce.mono (g1.trans (g2.trans g3))) vs) iu h2 fun σ4 E4 ce4 ew h4 => ⟨ew, ?_⟩
    refine ⟨F3, ro2, E4, m2, _, c3, ce4, h4, fun F5 ro5 H5 c m5 g5 c5 h5 => ?_⟩
    cases c with
    | true =>
      rw [if_pos rfl] at h5 ⊢
      refine ⟨F5, ro5, E4, m5, _, c5, ce4.mono g5, h5, fun F6 ro6 H6 u6 y m6 g6 c6 i6 h6 => ?_⟩
      revert h6
      split
      · rename_i k
        rintro ⟨few2, h6⟩
        cases i6
        have g26 := g3.trans (g5.trans g6)
        obtain ⟨q1, q2, q3⟩ := g26.apart hx hF2 hr2
        have e1 : (if S k = true then acc.length else acc.length + 1) = (addK acc k).length := by rw [hS k]; exact addK_len
        refine ⟨k, S, acc.length, rfl, q1, by unfold scanBound; omega, F6, ro6, m6, addK acc k, fun j => S j || decide (j = k), (g2.trans g26).over hD _, c6.loose q2 q3 _, by rw [upd_same, e1], fun j => ?_, ?_, q2, q3, h6⟩
        · show (S j || decide (j = k)) = _
          rw [hS j]
          by_cases a1 : j ∈ acc <;> by_cases a2 : j = k <;> simp [a1, a2, addK_mem]
        · have := addK_len_le (l := acc) (k := k)
          omega
      · exact fun h => h.elim
    | false =>
      rw [if_neg Bool.false_ne_true] at h5 ⊢
      have g25 := g3.trans g5
      obtain ⟨q1, q2, q3⟩ := g25.apart hx hF2 hr2
      exact ⟨F5, ro5, m5, acc, S, g2.trans g25, c5, q1, hS, few, q2, q3, h5⟩
  · have ei : i = us.length := by omega
    subst ei
    rw [List.drop_length] at h2
    exact .inl ⟨ok.stop F2 ro2 H2 m2 g2 c2 h2.1, q F2 ro2 H2 D S acc m2 (g1.trans g2) c2 hx hS few h2.2⟩
end
/-! ### len({..}), sorted({..}) -/
def dLenSc (s : AI) (g : AG) (tt : AT) (te : AE) (vs : List Nat) : AE := fun E m Q => s E m fun us gd m1 => scU gd g tt te (wipeE E vs) (fun acc m2 => Q (.v (.int acc.length)) m2) us [] m1
def dSortSc (mu : Bool) (s : AI) (g : AG) (tt : AT) (te : AE) (vs : List Nat) : AE := fun E m Q => s E m fun us gd m1 => scU gd g tt te (wipeE E vs) (fun acc m2 => ∀ l : List Int, l.Pairwise (· < ·) → (∀ k, k ∈ l ↔ k ∈ acc) → nw mu (l.map .int) m2 Q) us [] m1
section
variable {X : Cx}
def rLenSet (w : World) : List V → Hp → VK → Prop := fun vs H Q => ∃ (a : Addr) (S : Int → Bool) (n : Nat), vs = [V.ref a] ∧ H a = some (SetO w a S n) ∧ n < 64 ∧ Q (.int n) H
theorem cr_lenSet : CallR X (.builtin "len") (rLenSet X.w) := by
  intro pins s σ H vs us Q I r h
  obtain ⟨a, S, n, rfl, ha, few, q⟩ := h
  rw [Vals.ref1 r]
  obtain ⟨o, es, ep, t, ho, hex, hd, _, _, _, hb, hf, rfl, _⟩ := setO_get I ha
  refine call_len_set ho hex hd hf (by omega) ?_
  exact ⟨.int _, H, (I.tok _).tok _, ⟨_, rfl⟩, q⟩
theorem de_lenSc {elt tg iter : Expr} {ifs : List Expr} {scope : Scope} {own : List (PySem.Str × Nat)} {pos cpos fpos : Pos} {s : AI} {g : TG} {ga : AG} {tt : AT} {te : AE} {vs : List Nat} (hm : X.mg "len" = none) (hc : X.calm = true) (hN : X.N.Nodup) (hi : DI X tg iter s) (ok : BlkOk X.N X.env.scope scope own) (hv : own.map (·.2) = vs) (ho : GOwn X.K g ga vs)
    (hg : ∀ (t : Shared) (G : Hp) (b : Addr) (cl : List (PySem.Str × Addr)) (fp : List Addr), PG (X.blk t G scope (compEnvC scope cl b X.env) fp) tg g) (ht : ∀ (t : Shared) (G : Hp) (b : Addr) (cl : List (PySem.Str × Addr)) (fp : List Addr), DTs (X.blk t G scope (compEnvC scope cl b X.env) fp) ifs tt)
    (he : ∀ (t : Shared) (G : Hp) (b : Addr) (cl : List (PySem.Str × Addr)) (fp : List Addr), DE (X.blk t G scope (compEnvC scope cl b X.env) fp) elt te) (hs : ∀ x, foldedSetIterable iter X.env x = pure x := by intro _; rfl) (hgl : Gl X "len" := by rfl)
    (s1 : starEach [.SetComp elt [⟨tg, iter, ifs, 0⟩] scope pos] X.env = (false, eval (.SetComp elt [⟨tg, iter, ifs, 0⟩] scope pos) X.env) :: starEach [] X.env := by rfl) (t1 : (backTo cpos (starEach [] X.env)).any (·.1) = false := by rfl) :
    DE X (.Call (.Name "len" fpos) [.SetComp elt [⟨tg, iter, ifs, 0⟩] scope pos] [] cpos) (dLenSc s ga tt te vs) := by
  subst hv
  refine pe_imp (pe_callB cr_lenSet hgl hm bt_len (pa_cons (pe_setc (tt := cT X.K tt) (te := cE X.K te) hc hN hi ok hg ht he hs) pa_nil s1) (by decide) (by decide) s1 t1) fun σ H Q ⟨F, ro, E, m, Qa, cm, ce, hf, p⟩ => ?_
  show tSetc X.w (cI X.K s) g (cT X.K tt) (cE X.K te) (own.map (·.2)) σ H fun x G => rLenSet X.w [x] G Q
  refine setc_sim ho cm ce hf fun F1 ro1 G D S acc m1 g1 c1 hD hS few h1 => ?_
  exact ⟨D, S, acc.length, rfl, hD, few, (p.at g1).god c1 (.int _) h1⟩
theorem de_sortSc (mu : Bool) {elt tg iter : Expr} {ifs : List Expr} {scope : Scope} {own : List (PySem.Str × Nat)} {pos cpos fpos : Pos} {s : AI} {g : TG} {ga : AG} {tt : AT} {te : AE} {vs : List Nat} (hm : X.mg "sorted" = none) (hc : X.calm = true) (hN : X.N.Nodup) (hi : DI X tg iter s) (ok : BlkOk X.N X.env.scope scope own) (hv : own.map (·.2) = vs) (ho : GOwn X.K g ga vs)
    (hg : ∀ (t : Shared) (G : Hp) (b : Addr) (cl : List (PySem.Str × Addr)) (fp : List Addr), PG (X.blk t G scope (compEnvC scope cl b X.env) fp) tg g) (ht : ∀ (t : Shared) (G : Hp) (b : Addr) (cl : List (PySem.Str × Addr)) (fp : List Addr), DTs (X.blk t G scope (compEnvC scope cl b X.env) fp) ifs tt)
    (he : ∀ (t : Shared) (G : Hp) (b : Addr) (cl : List (PySem.Str × Addr)) (fp : List Addr), DE (X.blk t G scope (compEnvC scope cl b X.env) fp) elt te) (hs : ∀ x, foldedSetIterable iter X.env x = pure x := by intro _; rfl) (hgl : Gl X "sorted" := by rfl)
    (s1 : starEach [.SetComp elt [⟨tg, iter, ifs, 0⟩] scope pos] X.env = (false, eval (.SetComp elt [⟨tg, iter, ifs, 0⟩] scope pos) X.env) :: starEach [] X.env := by rfl) (t1 : (backTo cpos (starEach [] X.env)).any (·.1) = false := by rfl) :
    DE X (.Call (.Name "sorted" fpos) [.SetComp elt [⟨tg, iter, ifs, 0⟩] scope pos] [] cpos) (dSortSc mu s ga tt te vs) := by
  subst hv
  refine pe_imp (pe_callB (cr_sortedSet hc) hgl hm bt_sorted (pa_cons (pe_setc (tt := cT X.K tt) (te := cE X.K te) hc hN hi ok hg ht he hs) pa_nil s1) (by decide) (by decide) s1 t1) fun σ H Q ⟨F, ro, E, m, Qa, cm, ce, hf, p⟩ => ?_
  show tSetc X.w (cI X.K s) g (cT X.K tt) (cE X.K te) (own.map (·.2)) σ H fun x G => rSortedSet X.w [x] G Q
  refine setc_sim ho cm ce hf fun F1 ro1 G D S acc m1 g1 c1 hD hS few h1 => ?_
  refine ⟨D, S, acc.length, rfl, hD, few, fun ns b pw mem len hb => ?_⟩
  exact (p.at g1).nw c1 mu (IsDs.of_ints ns) (h1 ns pw fun k => (mem k).trans (by rw [hS k]; simp)) b hb
end
end Z
namespace Z
open PySem PySem.Spec PyProof.Rows L2
/-! ### bs.count(b), bools -/
theorem bools_vals : ∀ {bs : List Bool} {us : List Value}, Vals (bs.map V.bl) us → us = bs.map Value.bool
  | [], _, h => by cases h; rfl
  | b :: bs, _, h => by
    cases h with
    | cons a t => rw [bools_vals t]; cases a; rfl
theorem bools_count (k : Bool) : ∀ bs : List Bool, (bs.map Value.bool).countP (isBoolOf k) = bs.count k
  | [] => rfl
  | b :: bs => by
    rw [List.map_cons, List.countP_cons, List.count_cons, bools_count k bs] <;> rfl
section
variable {X : Cx}
def rCntB (K : PySem.W.Frag) : V → List V → Hp → VK → Prop := fun x xs H Q => ∃ (p : Addr) (bs : List Bool) (k : Bool), x = .ref p ∧ xs = [.bl k] ∧ SqL K H p (bs.map V.bl) ∧ Q (.int (bs.count k : Nat)) H
theorem mt_lcountB : MtR X "list.count" (rCntB X.K) := by
  intro pins s σ H x xs v us Q I rx rxs h
  obtain ⟨p, bs, k, rfl, rfl, hs, q⟩ := h
  cases rx
  obtain ⟨u, rfl, ru⟩ := rxs.one
  cases ru
  obtain ⟨its, rv, ⟨o, n, ho, hc, hdn, hd⟩, _⟩ := I.list hs
  cases bools_vals rv
  obtain ⟨cls, dd, data, sl⟩ := o
  simp only at hc hd
  subst hc hd
  refine call_meets F.slot_list_count ⟨_, ho, rfl⟩ F.entry_list_count (F.args_list_count_2 _ _) (SeqAt.list_countAt p (bs.map Value.bool).toArray n dd sl (.bool k) (isBoolOf k)) ⟨ho, fun y hy => ?_, ?_⟩
  · obtain ⟨b, _, rfl⟩ := List.mem_map.mp (show y ∈ bs.map Value.bool by simpa using hy)
    exact SeqAt.EqAt.bool_bool b k
  · refine ⟨.int (bs.count k : Nat), H, I.tok _, ⟨s.toks, ?_⟩, q⟩
    show Value.int (((bs.map Value.bool).countP (isBoolOf k) : Nat) : Int) s.toks = _
    rw [bools_count]
def aCountB : U → List U → Sto → QA → Prop := fun o us m Q => match asQ m o, us with
  | some l, [.v (.bool k)] => (match boolsOf l with
    | some bs => Q (.v (.int (bs.count k : Nat))) m
    | none => False)
  | _, _ => False
theorem sim_countB {K : PySem.W.Frag} : SimM K (rCntB K) aCountB := by
  intro F ro H m o x us vs Q Qa c io iu h p
  unfold aCountB at h
  split at h
  · rename_i l k el
    split at h
    · rename_i bs en
      obtain ⟨a, xs, rfl, r, hd⟩ := asQ_sq c io el
      obtain ⟨v, rfl, i1⟩ := iu1 iu
      cases i1
      rw [boolsOf_eq en] at hd
      rw [hd.bools] at r
      exact ⟨a, bs, k, rfl, rfl, r, p.god c (.int _) h⟩
    · exact h.elim
  · exact h.elim
end
end Z
/-! Y8: defs with a star parameter, starred arguments and targets. -/
namespace Z
open PySem PySem.Spec PyProof.Rows L2 StX
section
variable {P : Program} {w : World} {K : PySem.W.Frag} {mg : Str → Option Value} {base : Heap}
/-- a def's body from its start: the slots, what is handed back -/
theorem start_parts {N : List Str} {F0 : Hp} {ro : List Addr} {H : Hp} {m : Sto} {us' : List U} {vs : List V} {Qa : QA} {Q : VK} (cm : ConM K F0 ro H m) (iu : IsUs K F0 ro us' vs) (hpl : vs.length ≤ N.length) (p : Post K F0 ro H Qa Q) :
    ConE K F0 ro (L2.start N vs) (startU N.length us') ∧ Mat K F0 ro H (endsD m.length Qa) { nx := fun _ H' => Q .non H', rt := Q } := by
  have ce : ConE K F0 ro (L2.start N vs) (startU N.length us') := by
    have hlu : us'.length = vs.length := iu.length
    refine ⟨by unfold L2.start startU; simp; omega, fun i u e => ?_⟩
    have hi : i < us'.length := by
      unfold startU at e
      by_cases hi : i < us'.length
      · exact hi
      · rw [List.getElem?_append_right (by simpa using hi), List.getElem?_replicate] at e
        split at e <;> cases e
    unfold startU at e
    rw [List.getElem?_append_left (by simpa using hi), List.getElem?_map] at e
    have get : ∀ {us : List U} {vs : List V} {i : Nat} {u : U}, IsUs K F0 ro us vs → us[i]? = some u → ∃ v, vs[i]? = some v ∧ IsU K F0 ro u v := by
      intro us vs i u h
      induction h generalizing i with
      | nil => intro e; simp at e
      | cons a b ih =>
        intro e
        cases i with
        | zero => simp at e; subst e; exact ⟨_, rfl, a⟩
        | succ i =>
          obtain ⟨v, q1, q2⟩ := ih (i := i) (by simpa using e)
          exact ⟨v, by simpa using q1, q2⟩
    obtain ⟨u', e1, e2⟩ := Option.map_eq_some_iff.mp e
    cases e2
    obtain ⟨v, q1, q2⟩ := get iu e1
    refine ⟨v, ?_, q2⟩
    unfold L2.start
    rw [List.getElem?_append_left (by simp; omega), List.getElem?_map, q1]
    rfl
  have fin : ∀ (F' : Hp) (ro' : List Addr) (H' : Hp) (u : U) (v : V) (m' : Sto), Gro F0 ro H F' ro' H' → ConM K F' ro' H' m' → IsU K F' ro' u v → retD m.length Qa u m' → Q v H' := fun F' ro' H' u v m' g' c' i' q' => by
    obtain ⟨t, et, nt⟩ := g'.more
    subst et
    have cc := c'.cut
    rw [cm.len] at cc
    cases u with
    | v d => exact p F' ro H' (.v d) v _ g'.cut cc i' q'
    | s ns => exact q'.elim
    | o t => exact p F' ro H' (.o t) v _ g'.cut cc i' q'
    | r k =>
      obtain ⟨b, e1, e2⟩ := i'
      by_cases hk : k < m.length
      · have q2 : Qa (.r k) (m'.take m.length) := by
          have q3 := q'
          unfold retD at q3
          simp only [hk, if_true] at q3
          exact q3
        rw [List.getElem?_append_left (by rw [cm.len]; exact hk)] at e1
        exact p F' ro H' (.r k) v _ g'.cut cc ⟨b, e1, e2⟩ q2
      · have q3 := q'
        unfold retD at q3
        simp only [hk, if_false] at q3
        split at q3
        · rename_i l el
          obtain ⟨hF, xs, hx, hd⟩ : CellOk K F' H' b (.lst l) := c'.cell k b _ e1 el
          have hb : b ∈ t := by
            rw [List.getElem?_append_right (by rw [cm.len]; omega)] at e1
            exact List.mem_of_getElem? e1
          have hnr : b ∉ ro := fun z => (List.nodup_append.mp c'.nd).2.2 b z b hb rfl
          have c2 := cc.adopt hx hF hnr hd
          have g2 : Gro F0 ro H F' (ro ++ [b]) H' := ⟨g'.ex, ⟨[b], rfl, fun a ha => by
            have ea : a = b := by simpa using ha
            rw [ea]; exact nt b hb⟩, g'.fr, g'.st⟩
          exact p F' (ro ++ [b]) H' (.r m.length) v _ g2 c2 ⟨b, by rw [← cm.len, List.getElem?_append_right (Nat.le_refl _)]; simp, e2⟩ q3
        · rename_i l el
          obtain ⟨hF, xs, hx, hd⟩ : CellOk K F' H' b (.dct l) := c'.cell k b _ e1 el
          have hb : b ∈ t := by
            rw [List.getElem?_append_right (by rw [cm.len]; omega)] at e1
            exact List.mem_of_getElem? e1
          have hnr : b ∉ ro := fun z => (List.nodup_append.mp c'.nd).2.2 b z b hb rfl
          have c2 := cc.dctAdopt hx hF hnr hd
          have g2 : Gro F0 ro H F' (ro ++ [b]) H' := ⟨g'.ex, ⟨[b], rfl, fun a ha => by
            have ea : a = b := by simpa using ha
            rw [ea]; exact nt b hb⟩, g'.fr, g'.st⟩
          exact p F' (ro ++ [b]) H' (.r m.length) v _ g2 c2 ⟨b, by rw [← cm.len, List.getElem?_append_right (Nat.le_refl _)]; simp, e2⟩ q3
        · exact q3.elim
  exact ⟨ce, fun F' ro' H' σ' E' m' g' c' _ q' => fin F' ro' H' (.v .none) .non m' g' c' .non q', fun F' ro' H' u v m' g' c' i' q' => fin F' ro' H' u v m' g' c' i' q', fun _ _ _ _ _ _ _ _ _ q => q.elim, fun _ _ _ _ _ _ _ _ _ q => q.elim⟩
theorem start_cS {N : List Str} {F0 : Hp} {ro : List Addr} {H : Hp} {m : Sto} {us' : List U} {vs : List V} {g : AS} {Qa : QA} {Q : VK} (cm : ConM K F0 ro H m) (iu : IsUs K F0 ro us' vs) (hpl : vs.length ≤ N.length) (hg : g (endsD m.length Qa) (startU N.length us') m) (p : Post K F0 ro H Qa Q) :
    cS K g { nx := fun _ H' => Q .non H', rt := Q } (L2.start N vs) H :=
  ⟨F0, ro, startU N.length us', m, endsD m.length Qa, cm, (start_parts cm iu hpl p).1, hg, (start_parts cm iu hpl p).2⟩
/-- a def that keeps a promise, told of plain arguments -/
structure FnS (P : Program) (w : World) (K : PySem.W.Frag) (mg : Str → Option Value) (base : Heap) (k : Nat) (f : Addr) (a : ASp) : Prop where
  run : ∀ (A : Around) (outer : List Env) (s : Shared) (H : Hp) (us : List Value) (vs : List V) (Q : VK) (E : XK), Room k A → A.guards = some [] → Env0 P w K mg base A outer s H → Vals vs us → cSp K a vs H Q E →
    codeAny (model P w) A (.call (.ref f) ⟨us, []⟩) (CR CX0 outer P w H s Q E) s
structure DfnS (K : PySem.W.Frag) (mg : Str → Option Value) (x : Str) (st : Stmt) (ps : List Str) (pv : Str) : Prop where
  ex : ∃ f fd, Fun K x x st f fd ∧ mg x = some (.ref f) ∧ ∀ us rest : List Value, us.length = ps.length → bindArgs fd ⟨us ++ rest, []⟩ = (newTuple rest >>= fun t => pure (ps.zip us ++ [(pv, t)]))
structure CalS (P : Program) (w : World) (K : PySem.W.Frag) (mg : Str → Option Value) (base : Heap) (k : Nat) (x : Str) (a : ASp) : Prop where
  ex : ∃ f, FnS P w K mg base k f a ∧ mg x = some (.ref f) ∧ PySem.W.keepIn K (.ref f) = true
theorem isUs_split : ∀ {ws : List U} {ds : List PyData} {F : Hp} {ro : List Addr} {vs : List V}, IsUs K F ro (ws ++ ds.map U.v) vs → ∃ v1 v2, vs = v1 ++ v2 ∧ IsUs K F ro ws v1 ∧ IsDs K F v2 ds
  | [], [], _, _, _, h => by cases h; exact ⟨[], [], rfl, .nil, .nil⟩
  | [], d :: ds, _, _, _, h => by
    cases h with
    | cons a t =>
      obtain ⟨v1, v2, e, i1, i2⟩ := isUs_split (ws := []) (ds := ds) t
      cases i1
      exact ⟨[], _ :: v2, by rw [e]; rfl, .nil, .cons a i2⟩
  | w :: ws, ds, _, _, _, h => by
    cases h with
    | cons a t =>
      obtain ⟨v1, v2, e, i1, i2⟩ := isUs_split (ws := ws) (ds := ds) t
      exact ⟨_ :: v1, v2, by rw [e]; rfl, .cons a i1, i2⟩
theorem isUs_app : ∀ {ws us : List U} {F : Hp} {ro : List Addr} {v1 v2 : List V}, IsUs K F ro ws v1 → IsUs K F ro us v2 → IsUs K F ro (ws ++ us) (v1 ++ v2)
  | [], _, _, _, _, _, h, k => by cases h; exact k
  | w :: ws, _, _, _, _, _, h, k => by
    cases h with
    | cons a t => exact .cons a (isUs_app t k)
theorem CalS.mk' {k : Nat} {x : Str} {st : Stmt} {ps : List Str} {pv : Str} {a : ASp} {N : List Str} {g : AS} (d : DfnS K mg x st ps pv) (S : FnScope N (ps ++ [pv]) (defScope st))
    (body : ∀ (f : Addr) (cdv : Value) (A : Around) (outer : List Env) (s : Shared) (H : Hp) (E : XK), Room k (A.deeper (envOfC x (defScope st) s.heap.objs.size f cdv)) → (A.deeper (envOfC x (defScope st) s.heap.objs.size f cdv)).guards = some [] →
      DSs (cxOf CX0 P w K mg base N x (defScope st) f cdv A outer s H E).nox (defBody st) g)
    (sem : ∀ us m Q, a us m Q → ∃ (ws : List U) (ds : List PyData), us = ws ++ ds.map U.v ∧ ws.length = ps.length ∧ ds.length ≤ sizeLine ∧ g (endsD m.length Q) (startU N.length (ws ++ [.v (.tuple ds)])) m) : CalS P w K mg base (k + 1) x a := by
  obtain ⟨f, fd, Fn, hm, hb⟩ := d.ex
  refine ⟨f, ⟨fun A outer s H us vs Q E hr hg e0 r hsp => ?_⟩, hm, Fn.kp⟩
  obtain ⟨oc, od, kV, doc, pm, an, cdv, ct, osl, rfl, lk, hcd⟩ := Fn.ex
  obtain ⟨F0, ro, m, us', Qa, cm, iu, ha, p⟩ := hsp
  obtain ⟨ws, ds, rfl, hl, hz, hgg⟩ := sem _ _ _ ha
  obtain ⟨v1, v2, rfl, i1, i2⟩ := isUs_split iu
  obtain ⟨u1, u2, rfl, r1, r2⟩ := vals_split r
  have nH : H s.heap.objs.size = none := e0.hok.fresh (Nat.le_refl _)
  have l1 : v1.length = ps.length := by rw [← i1.length]; exact hl
  have l2 : u1.length = ps.length := by rw [← r1.length]; exact l1
  have z2 : v2.length ≤ sizeLine := by rw [i2.length]; exact hz
  have z3 : u2.length ≤ sizeLine := by rw [← r2.length]; exact z2
  have hpl : (ps ++ [pv]).length ≤ N.length := by have := congrArg List.length S.pre; rw [List.length_take] at this; omega
  refine run_bnd lk hcd S hr e0 (G := fun xs G2 => ∃ q, H q = none ∧ xs = v1 ++ [V.ref q] ∧ G2 = upd H q (.tup v2)) (fun A' Ex R h => ?_) fun s2 G2 xs hx hr' => ?_
  · rw [hb u1 u2 l2]
    refine wpAny_bind (wpAny_newTuple (wpAny_pure ?_) z3)
    have made : ObjOk P w (upd H s.heap.objs.size (.tup v2)) (s.heap.push ({ cls := .type "tuple", data := .seq u2.toArray } : Obj)) s.heap.objs.size (.tup v2) := ⟨z2, u2, r2, _, Heap.get?_push_size _ rfl, rfl, _, rfl⟩
    have y := h { s with heap := s.heap.push ({ cls := .type "tuple", data := .seq u2.toArray } : Obj) } (upd H s.heap.objs.size (.tup v2)) (v1 ++ [V.ref s.heap.objs.size]) (u1 ++ [Value.ref s.heap.objs.size]) (env0_laid e0 made) (un_laid nH) rfl (fun _ _ z => z) (r1.append (.cons rfl .nil)) (by simp [l1]) ⟨_, nH, rfl, rfl⟩
    rw [List.zip_append l2.symm] at y
    exact y
  · obtain ⟨q, hq, rfl, rfl⟩ := hx
    obtain ⟨c2, g2⟩ := cm.known hq (.tup v2)
    have it : IsU K (upd F0 q (.tup v2)) ro (.v (.tuple ds)) (.ref q) := IsD.tup (.inl upd_same) (IsDs.mono g2.ex i2)
    refine ⟨cS K g, PSs.nox (body f cdv A outer s2 _ E hr' hg), ?_⟩
    exact start_cS c2 (isUs_app (i1.mono g2) (.cons it .nil)) (by simp at hpl ⊢; omega) hgg (p.at g2)
theorem DfnS.mk' {h : Heap} {x : Str} {st : Stmt} {ps : List Str} {pv : Str} {f : Addr} {od an : Option Addr} {sl : Array (Option Value)} {oc kV dc pm cd ct : Value} (X : K.In h) (G : h.Ns mainGlobals mg)
    (a1 : PySem.W.nsIn K mainGlobals x = some (some (.ref f))) (l1 : K.lookup f = some ⟨oc, od, .func (PySem.W.fnOf x x (defArgs st) (defBody st) (defScope st) .none kV dc pm an cd ct), sl⟩) (c1 : PySem.W.codeIn K cd x = true) (k1 : PySem.W.keepIn K (.ref f) = true)
    (hb : ∀ (kV doc pm : Value) (an : Option Addr) (cdv ct : Value) (us rest : List Value), us.length = ps.length → bindArgs (PySem.W.fnOf x x (defArgs st) (defBody st) (defScope st) .none kV doc pm an cdv ct) ⟨us ++ rest, []⟩ = (newTuple rest >>= fun t => pure (ps.zip us ++ [(pv, t)]))) : DfnS K mg x st ps pv :=
  ⟨f, _, fun_mk l1 c1 k1, PySem.W.mg_of X G a1, fun us rest hl => hb _ _ _ _ _ _ us rest hl⟩
end
/-! ### calls -/
section
variable {X : Cx} {k j : Nat} {a : ASp} {x : Str} {p pos sp_ : Pos} {e : Expr} {es : List Expr} {g : AA} {f : AE}
theorem run_fnS {pins : List (Addr × Obj)} {σ : L2.St} {H : Hp} {s : Shared} {Q : VK} {us : List Value} {vs : List V} {q : Addr} (F : FnS X.prog X.w X.K X.mg X.base k q a) (hr : Room k X.A) (hg : X.A.guards = some [])
    (I : Inv X pins σ H s) (r : Vals vs us) (h : cSp X.K a vs H Q E0) : wpAny (model X.prog X.w) X.A (call (.ref q) us) (EP X pins σ Q) X.xe s := by
  refine wpAny_call (codeAny_mono (F.run X.A X.stack s H us vs Q E0 hr hg I.env0 r h) fun r s' hq => ?_)
  cases r with
  | error e => exact hq.elim
  | ok fl =>
    cases fl with
    | ret u => exact I.after hq
    | next => exact hq.elim
    | brk => exact hq.elim
    | cont => exact hq.elim
theorem de_calS (c : CalS X.prog X.w X.K X.mg X.base k x a) (hr : Room j X.A) (hgd : X.A.guards = some []) (ha : DA X (e :: es) g) (hk : k ≤ j := by decide) (hg : Gl X x := by rfl)
    (hdb : (x == ("__debug__" : Str)) = false := by decide) (he : starEach (e :: es) X.env = (false, eval e X.env) :: starEach es X.env := by rfl) (hpl : (backTo pos (starEach es X.env)).any (·.1) = false := by rfl) :
    DE X (.Call (.Name x p) (e :: es) [] pos) (dCall a g) := by
  obtain ⟨q, F, hm, kp⟩ := c.ex
  refine ⟨fun pins s σ H Q I h => ?_⟩
  obtain ⟨F0, ro, E, m, Qa, cm, ce, hf, p⟩ := h
  refine wpAny_Call_Name_kw (ld_glob I hg hm ?_ hdb)
  refine PySem.W.callWith_K (h₀ := X.base) I.ok.mod.kin kp (thn (ha.run pos pins s σ H (fun vs H1 => cSp X.K a vs H1 Q E0) I ⟨F0, ro, E, m, _, cm, ce, hf, fun F1 ro1 H1 us vs m1 g1 c1 i1 h1 => ⟨F1, ro1, m1, us, Qa, c1, i1, h1, p.at g1⟩⟩) fun us s1 ⟨vs, H1, I1, r, q1⟩ => ⟨I1.kIn, ?_⟩) he hpl
  exact run_fnS F (hr.mono hk) hgd I1 r q1
/-- x(*e), e a tuple of data -/
def dCallT (a : ASp) (t : AE) : AE := fun E m Q => t E m fun u m1 => match u with
  | .v (.tuple ds) => a (ds.map .v) m1 Q
  | _ => False
theorem isUs_ds {K : PySem.W.Frag} {F : Hp} {ro : List Addr} : ∀ {ds : List PyData} {vs : List V}, IsDs K F vs ds → IsUs K F ro (ds.map U.v) vs
  | _, _, .nil => .nil
  | _, _, .cons a t => .cons a (isUs_ds t)
theorem de_calT (c : CalS X.prog X.w X.K X.mg X.base k x a) (hr : Room j X.A) (hgd : X.A.guards = some []) (ha : DE X e f) (hk : k ≤ j := by decide) (hg : Gl X x := by rfl)
    (hdb : (x == ("__debug__" : Str)) = false := by decide) (hst : starEach [.Starred e sp_] X.env = [(true, eval e X.env)] := by rfl) :
    DE X (.Call (.Name x p) [.Starred e sp_] [] pos) (dCallT a f) := by
  obtain ⟨q, F, hm, kp⟩ := c.ex
  refine ⟨fun pins s σ H Q I h => ?_⟩
  obtain ⟨F0, ro, E, m, Qa, cm, ce, hf, p⟩ := h
  refine wpAny_Call_Name_kw (ld_glob I hg hm ?_ hdb)
  refine PySem.W.callWith_S (h₀ := X.base) I.ok.mod.kin kp (thn (ha.run pins s σ H (fun v H1 => ∃ b xs, v = V.ref b ∧ SqT X.K H1 b xs ∧ cSp X.K a xs H1 Q E0) I ⟨F0, ro, E, m, _, cm, ce, hf, fun F1 ro1 H1 u v m1 g1 c1 i1 h1 => ?_⟩) fun v s1 ⟨y, H1, I1, ry, b, xs, ey, hx, q1⟩ => ?_) hst
  · revert h1
    dsimp only
    split
    · rename_i ds
      intro h1
      cases i1 with
      | tup h2 h3 => exact ⟨_, _, rfl, .inl (rd_mono c1.ex h2), F1, ro1, m1, ds.map U.v, Qa, c1, isUs_ds h3, h1, p.at g1⟩
    · exact fun h => h.elim
  · subst ey
    cases ry
    exact star_any I1 (.inl hx) fun us s2 I2 rv => ⟨I2.kIn, run_fnS F (hr.mono hk) hgd I2 rv q1⟩
end
end Z
namespace Z
open PySem PySem.Spec PyProof.Rows L2 PySem.W
/-! ### a, *b = t -/
section
variable {prog : Program} {w : World} {A : Around} {E : Value → Shared → Prop} {s : Shared}
theorem head_rest {t : Addr} {vs : Array Value} {Q : List Value → Shared → Prop} (ht : IsTup s.heap t vs) (calm : A.handled = none) (one : 1 ≤ vs.size) (few : vs.size ≤ 16384)
    (q : ∀ (g : Heap) (n : Nat), (∀ b o, s.heap.get? b = some o → g.get? b = some o) → Q (vs.toList.take 1 ++ [.ref g.objs.size] ++ []) { s with heap := g.push { cls := .type "list", data := .seq (vs.toList.drop 1).toArray }, toks := n }) :
    wpAny (model prog w) A (unpackItems (.ref t) 2 (some 1)) Q E s := by
  have sm : t < s.heap.objs.size := let ⟨_, e, _⟩ := ht; Heap.lt_size e
  have ne : t ≠ s.heap.objs.size := Nat.ne_of_lt sm
  unfold unpackItems
  refine wpAny_bind ?_
  unfold notIterableAtAll
  refine wpAny_bind (wpAny_specialOf ht.typeIs slot_tuple_iter.lookup (wpAny_pure ?_))
  simp only [Bool.false_eq_true, if_false]
  refine wpAny_bind (wpAny_holding (iter_tuple ht (wpAny_bind (wpAny_holding (draw_tuple ne 1 0 _ _ ⟨_, Heap.get?_push_size _ rfl, rfl, rfl⟩ (ht.push _) (by omega) fun g1 it1 same1 => ?_)))))
  have t1 : IsTup g1 t vs := (ht.push _).extBut same1.extBut ne
  have it2 : IsTupIter g1 s.heap.objs.size t 1 := it1
  have b1 : s.heap.objs.size < g1.objs.size := let ⟨_, e, _⟩ := it2; Heap.lt_size e
  have b2 : t < g1.objs.size := let ⟨_, e, _⟩ := t1; Heap.lt_size e
  have len1 : (vs.toList.take 1).length = 1 := by rw [List.length_take, Array.length_toList]; omega
  rw [List.drop_zero, if_neg (by rw [len1]; exact Nat.lt_irrefl 1)]
  refine wpAny_bind (wpAny_holding (kun_collect (s := { s with heap := g1 }) (T := "tuple_iterator") (.inr (.inr (.inr rfl))) (Walks.tuple (A := A.in1) calm s.heap.objs.size t ne vs) (fun _ _ st => st.1.typeIs) (k := 1) one ⟨it2, t1⟩ b1 b2 (fun g2 n2 kept => ?_) (by rw [sizeLine_eq]; omega)))
  have len2 : (vs.toList.drop 1).length = vs.size - 1 := by rw [List.length_drop, Array.length_toList]
  show wpAny _ _ (if (vs.toList.drop 1).length < 2 - 1 - 1 then _ else _) _ _ _
  rw [if_neg (by omega)]
  show wpAny _ _ (newList ((vs.toList.drop 1).take ((vs.toList.drop 1).length - (2 - 1 - 1))) >>= fun d => pure (vs.toList.take 1 ++ [d] ++ (vs.toList.drop 1).drop ((vs.toList.drop 1).length - (2 - 1 - 1)))) _ _ _
  rw [show (vs.toList.drop 1).length - (2 - 1 - 1) = (vs.toList.drop 1).length from rfl, List.take_length, List.drop_length]
  exact wpAny_bind (wpAny_newList (wpAny_pure (q g2 n2 fun b o e => kept b o (Nat.ne_of_lt (Heap.lt_size e)) (same1.extBut b o (Nat.ne_of_lt (Heap.lt_size e)) (Heap.get?_push_of_some _ e)))) (by rw [len2, sizeLine_eq]; omega))
end
section
variable {X : Cx}
/-- (a, *b) = a tuple; b is data -/
def gHead (K : PySem.W.Frag) (i j : Nat) : TG := fun v σ H Q => ∃ t x xs, v = .ref t ∧ SqT K H t (x :: xs) ∧ xs.length < 16000 ∧ ∀ D, H D = none → Q ((σ.set i (some x)).set j (some (.ref D))) (upd H D (.lst xs))
theorem pg_head {e1 e2 : Expr} {k : Nat} {pos p2 : Pos} {i j : Nat} (calm : X.calm = true) (h1 : PG X e1 (gName i)) (h2 : PG X e2 (gName j)) (hn : (assignEach [e1, .Starred e2 p2] X.env).length = 2 := by rfl) (hst : (assignEach [e1, .Starred e2 p2] X.env).findIdx? (·.1) = some 1 := by rfl)
    (ha : (assignEach [e1, .Starred e2 p2] X.env).map (·.2) = [assign e1 X.env, assign e2 X.env] := by rfl) : PG X (.Tuple [e1, .Starred e2 p2] k pos) (gHead X.K i j) := by
  refine ⟨fun pins s σ H v u Q I r hw => ?_⟩
  obtain ⟨t, x, xs, rfl, ht, few, q⟩ := hw
  cases r
  obtain ⟨its, rv, ot, _⟩ := I.tuple ht
  cases rv with
  | cons r1 r2 =>
    rename_i u1 us
    rw [arm_assign_Tuple]
    refine wpAny_bind (wpAny_standAt ?_)
    unfold unpack
    rw [hn, hst, ha]
    have ln := r2.length
    refine wpAny_bind (wpAny_holding (head_rest ot (I.ok.hd calm) (by simp) (by simp; omega) fun g n kept => ?_))
    have I1 : Inv X pins σ H { s with heap := g, toks := n } := I.kept (t' := n) kept
    have hD : H g.objs.size = none := I1.hok.fresh (Nat.le_refl _)
    have I2 : Inv X pins σ (upd H g.objs.size (.lst xs)) { s with heap := g.push { cls := .type "list", data := .seq us.toArray }, toks := n } :=
      I1.laid (t' := n) (fun b o e => Heap.get?_push_of_some _ e) (Nat.le_refl _) ⟨by rw [sizeLine_eq]; omega, us, 0, r2, Heap.get?_push_size _ rfl⟩
    refine assignInOrder_cons (thn (h1.run pins _ σ _ x u1 (fun τ G => τ = σ.set i (some x) ∧ G = upd H g.objs.size (.lst xs)) I2 r1 ⟨rfl, rfl⟩) fun _ s2 ⟨τ, G, I3, e⟩ => ?_)
    obtain ⟨rfl, rfl⟩ := e
    exact assignInOrder_cons (thn (h2.run pins s2 _ _ (.ref g.objs.size) (.ref g.objs.size) Q I3 rfl (q g.objs.size hD)) fun _ s3 z => assignInOrder_nil z)
/-- a, *b = chains -/
def dAsgHead (i j : Nat) (t : AE) : AS := fun D E m => t E m fun u m1 => match u with
  | .v (.tuple (d :: ds)) => ds.length < 16000 ∧ D.nx ((E.set i (some (.v d))).set j (some (.v (.list ds)))) m1
  | _ => False
theorem ds_head {e1 e2 : Expr} {k : Nat} {tpos p2 pos : Pos} {i j : Nat} {e : Expr} {fe : AE} (calm : X.calm = true) (he : DE X e fe) (h1 : PG X e1 (gName i)) (h2 : PG X e2 (gName j)) (hn : (assignEach [e1, .Starred e2 p2] X.env).length = 2 := by rfl) (hst : (assignEach [e1, .Starred e2 p2] X.env).findIdx? (·.1) = some 1 := by rfl)
    (ha : (assignEach [e1, .Starred e2 p2] X.env).map (·.2) = [assign e1 X.env, assign e2 X.env] := by rfl) (hs : swapsWithSole [.Tuple [e1, .Starred e2 p2] k tpos] e pos.line X.env = pure false := by rfl) (hw : swappedStores [.Tuple [e1, .Starred e2 p2] k tpos] e X.env = pure none := by rfl)
    (ho : (assignEach [.Tuple [e1, .Starred e2 p2] k tpos] X.env).map (·.2) = [assign (.Tuple [e1, .Starred e2 p2] k tpos) X.env] := by rfl) : DS X (.Assign [.Tuple [e1, .Starred e2 p2] k tpos] e pos) (dAsgHead i j fe) :=
  ps_imp (ps_asg he (pg_head calm h1 h2 hn hst ha) hs hw ho) fun D σ H ⟨F, ro, E, m, Da, c, ce, hf, p⟩ => ⟨F, ro, E, m, _, c, ce, hf, fun F1 ro1 H1 u v m1 g1 c1 i1 h1 => by
    revert h1
    dsimp only
    split
    · rename_i d ds
      rintro ⟨few, h1⟩
      cases i1 with
      | tup hx hd =>
        cases hd with
        | cons a t =>
          refine ⟨_, _, _, rfl, .inl (rd_mono c1.ex hx), by rw [t.length]; exact few, fun b hb => ?_⟩
          obtain ⟨c2, g2⟩ := c1.known hb (.lst _)
          exact p.nx _ _ _ _ _ _ (g1.trans g2) c2 (((ce.mono (g1.trans g2)).set i (u := .v d) (IsU.mono g2 (show IsU _ _ _ (.v d) _ from a))).set j (u := .v (.list ds)) (IsD.lst upd_same (IsDs.mono g2.ex t))) h1
    · exact fun h => h.elim⟩
end
end Z
namespace Z
open PySem PySem.Spec PyProof.Rows L2
/-! ### a comprehension within another one -/
theorem look_rel {env : Env} {x : Str} : ∀ {names : List (Str × NameKind)}, (names.lookup x = some .cell ∨ names.lookup x = some .free) →
    (names.map fun (n, k) => if (k == NameKind.free && env.scope.kind == .function && env.kindOf n == some .cell) then (n, NameKind.cell) else (n, k)).lookup x = some .cell ∨
    (names.map fun (n, k) => if (k == NameKind.free && env.scope.kind == .function && env.kindOf n == some .cell) then (n, NameKind.cell) else (n, k)).lookup x = some .free
  | [], h => by simp at h
  | (n, k) :: r, h => by
    have ih := look_rel (env := env) (x := x) (names := r)
    rw [List.map_cons]
    by_cases c : (k == NameKind.free && env.scope.kind == .function && env.kindOf n == some .cell) = true
    · simp only [c, if_true]
      cases e : x == n with
      | true => exact .inl (by simp [List.lookup_cons, e])
      | false =>
        simp only [List.lookup_cons, e] at h ⊢
        exact ih h
    · simp only [c, if_false, Bool.false_eq_true]
      cases e : x == n with
      | true =>
        simp only [List.lookup_cons, e] at h ⊢
        exact h
      | false =>
        simp only [List.lookup_cons, e] at h ⊢
        exact ih h
theorem blkOk_in {N : List Str} {sc scope : Scope} {own : List (Str × Nat)} {env : Env} (h : blkC N sc scope own = true) : BlkOk N (relabel sc env) scope own := by
  have b := blkOk_by h
  exact ⟨b.kind, b.uniq, b.ix, fun y hy e => look_rel (b.free y hy e), b.own⟩
end Z
/-! Y9: data compared by order. -/
namespace Z
open PySem PySem.Spec PyProof.Rows L2
def rCmpD (K : PySem.W.Frag) (f : PyData → PyData → Bool) : R2 := fun x y H Q => ∃ d e, IsD K H x d ∧ IsD K H y e ∧ d.showable = true ∧ d.shown.length ≤ sizeLine ∧ e.showable = true ∧ e.shown.length ≤ sizeLine ∧ PySem.W.alike d e = true ∧ d ≠ .none ∧ min d.depth e.depth ≤ 64 ∧ Q (.bl (f d e)) H
section
variable {X : Cx}
theorem op_cmpD {op : CmpOp} {f : PyData → PyData → Bool} (hu : X.A.units + 66 < cLine)
    (rule : ∀ {E : Value → Shared → Prop} {s : Shared} {a b : Value} {da db : PyData} {as bs : List Addr} {Q : Value → Shared → Prop}, Reads s.heap a da as → Reads s.heap b db bs → PySem.W.alike da db = true → da ≠ .none → X.A.units + min da.depth db.depth < cLine → Q (.bool (f da db)) s → wpAny (model X.prog X.w) X.A (compareOp op a b) Q E s) :
    OpR X (compareOp op) (rCmpD X.K f) := by
  intro pins s σ H x y v u Q I rx ry h
  obtain ⟨d, e, hd, he, d1, d2, e1, e2, al, ne, dp, q⟩ := h
  obtain ⟨as, _, ra, _⟩ := IsD.rk I hd rx d1 d2
  obtain ⟨bs, _, rb, _⟩ := IsD.rk I he ry e1 e2
  exact rule ra rb al ne (by omega) ⟨.bl _, H, I, rfl, q⟩
theorem op_leD (hu : X.A.units + 66 < cLine) : OpR X (compareOp .LtE) (rCmpD X.K fun d e => !PySem.W.dataLt e d) := op_cmpD hu fun a b c d e f => PySem.W.le_data a b c d e f
theorem op_geD (hu : X.A.units + 66 < cLine) : OpR X (compareOp .GtE) (rCmpD X.K fun d e => !PySem.W.dataLt d e) := op_cmpD hu fun a b c d e f => PySem.W.ge_data a b c d e f
theorem op_ltD (hu : X.A.units + 66 < cLine) : OpR X (compareOp .Lt) (rCmpD X.K fun d e => PySem.W.dataLt d e) := op_cmpD hu fun a b c d e f => PySem.W.lt_data a b c d e f
theorem op_gtD (hu : X.A.units + 66 < cLine) : OpR X (compareOp .Gt) (rCmpD X.K fun d e => PySem.W.dataLt e d) := op_cmpD hu fun a b c d e f => PySem.W.gt_data a b c d e f
def aCmpD (f : PyData → PyData → Bool) : R2A := fun a b m Q => match asD m a, asD m b with
  | some d, some e => d.showable = true ∧ d.shown.length ≤ sizeLine ∧ e.showable = true ∧ e.shown.length ≤ sizeLine ∧ PySem.W.alike d e = true ∧ d ≠ .none ∧ min d.depth e.depth ≤ 64 ∧ Q (.v (.bool (f d e))) m
  | _, _ => False
theorem sim_cmpD {K : PySem.W.Frag} (f : PyData → PyData → Bool) : Sim2 K (rCmpD K f) (aCmpD f) := by
  intro F ro H m a b v w Q Qa c i1 i2 h p
  unfold aCmpD at h
  split at h
  · rename_i d e ed ee
    obtain ⟨h1, h2, h3, h4, h5, h6, h7, q⟩ := h
    exact ⟨d, e, asD_is c i1 ed, asD_is c i2 ee, h1, h2, h3, h4, h5, h6, h7, p.god c (.bl _) q⟩
  · exact h.elim
end
/-- ints, one after the other -/
def ltI : List Int → List Int → Bool
  | _, [] => false
  | [], _ :: _ => true
  | x :: xs, y :: ys => if x = y then ltI xs ys else decide (x < y)
theorem lex_ints : ∀ xs ys : List Int, PyProof.Rows.lexLt itemOrd (PySem.W.keyToksAll (xs.map .int)) (PySem.W.keyToksAll (ys.map .int)) = ltI xs ys
  | [], [] => lex_irrefl _
  | [], y :: ys => by
    rw [← PySem.W.firstLt_toks (([] : List Int).map .int) ((y :: ys).map .int) rfl]
    simp [SeqAt.firstLt, ltI]
  | x :: xs, [] => by
    rw [← PySem.W.firstLt_toks ((x :: xs).map .int) (([] : List Int).map .int) rfl]
    simp [SeqAt.firstLt, ltI]
  | x :: xs, y :: ys => by
    rw [List.map_cons, List.map_cons, ltI]
    by_cases h : x = y
    · rw [PySem.W.dataLt_all_yes (x := .int x) (y := .int y) rfl (by simp [PyData.eqv, h]), if_pos h, lex_ints xs ys]
    · rw [PySem.W.dataLt_all_no (x := .int x) (y := .int y) rfl (by simpa [PyData.eqv] using h), if_neg h, PySem.W.dataLt_int]
theorem dataLt_ints (xs ys : List Int) : PySem.W.dataLt (.list (xs.map .int)) (.list (ys.map .int)) = ltI xs ys := by
  rw [← lex_ints]
  rfl
theorem alike_ints : ∀ xs ys : List Int, PySem.W.alikeAll (xs.map .int) (ys.map .int) = true
  | [], _ => rfl
  | _ :: _, [] => rfl
  | x :: xs, y :: ys => by
    rw [List.map_cons, List.map_cons, PySem.W.alikeAll, alike_ints xs ys]
    rfl
end Z
namespace Z
open PySem PySem.Spec PyProof.Rows L2
/-! ### list(range(a, b, -1)) -/
def dnV (i : Int) (n : Nat) : List V := (List.range n).map fun (k : Nat) => V.int (i - (k : Int))
def dnI (i : Int) (n : Nat) : List Int := (List.range n).map fun (k : Nat) => i - (k : Int)
theorem vals_dn {i : Int} {n : Nat} {acc : Array Value} (h : ItemsOf (fun k v => ∃ t, v = .int (i + (k : Int) * (-1)) t) acc n) : Vals (dnV i n) acc.toList := by
  have len : (dnV i n).length = acc.toList.length := by simp [dnV, h.1]
  have go : ∀ (vs : List V) (us : List Value), vs.length = us.length → (∀ (k : Nat) v u, vs[k]? = some v → us[k]? = some u → RelV v u) → Vals vs us := by
    intro vs
    induction vs with
    | nil =>
      intro us hl _
      cases us with
      | nil => exact .nil
      | cons a b => simp at hl
    | cons v vs ih =>
      intro us hl hr
      cases us with
      | nil => simp at hl
      | cons u us => exact .cons (hr 0 v u rfl rfl) (ih us (by simpa using hl) fun k v' u' a b => hr (k + 1) v' u' (by simpa using a) (by simpa using b))
  refine go _ _ len fun k v u hv hu => ?_
  unfold dnV at hv
  rw [List.getElem?_map] at hv
  obtain ⟨k', e1, e2⟩ := Option.map_eq_some_iff.mp hv
  obtain ⟨_, e3⟩ := List.getElem?_eq_some_iff.mp e1
  simp at e3
  subst e3 e2
  obtain ⟨t, rfl⟩ := h.2 k u (by rw [← Array.getElem?_toList]; exact hu)
  exact ⟨t, by rw [show i + (k : Int) * (-1) = i - (k : Int) by omega]⟩
section
variable {X : Cx}
def tLRgD (ta : TA) : TE := fun σ H Q => ta σ H fun vs H1 => ∃ i j n, vs = [.int i, .int j, .int (-1)] ∧ RgC i j (-1) n ∧ n ≤ 2 ^ 24 ∧ ∀ q, H1 q = none → Q (.ref q) (upd H1 q (.lst (dnV i n)))
theorem pe_lRgD {a b c : Expr} {ta : TA} {p p2 pos pos2 : Pos} (calm : X.calm = true) (gl : Gl X "list") (ml : X.mg "list" = none) (gr : Gl X "range") (mr : X.mg "range" = none) (ha : PA X [a, b, c] ta)
    (s1 : starEach [.Call (.Name "range" p2) [a, b, c] [] pos2] X.env = (false, eval (.Call (.Name "range" p2) [a, b, c] [] pos2) X.env) :: starEach [] X.env := by rfl)
    (s2 : starEach [a, b, c] X.env = (false, eval a X.env) :: starEach [b, c] X.env := by rfl) (t2 : (backTo pos2 (starEach [b, c] X.env)).any (·.1) = false := by rfl) :
    PE X (.Call (.Name "list" p) [.Call (.Name "range" p2) [a, b, c] [] pos2] [] pos) (tLRgD ta) := by
  refine ⟨fun pins s σ H Q I h => ?_⟩
  have inner : wpAny (model X.prog X.w) X.A (eval (.Call (.Name "range" p2) [a, b, c] [] pos2) X.env) (fun x t => ∃ r i j n t1 t2 t3 H1, x = .ref r ∧ IsRange t.heap r i j (-1) t1 t2 t3 ∧ Inv X pins σ H1 t ∧ RgC i j (-1) n ∧ n ≤ 2 ^ 24 ∧ ∀ q, H1 q = none → Q (.ref q) (upd H1 q (.lst (dnV i n)))) X.xe s := by
    refine Call_ (ld_blt I gr mr boot_range (PyProof.Rows.callWith_type1 (thn (ha.run pos2 pins s σ H _ I h) fun us t ⟨vs, H1, I1, r1, q1⟩ => ?_) s2 t2))
    obtain ⟨i, j, n, rfl, rg, few, q⟩ := q1
    have rg' := rg
    obtain ⟨c0, c1, _, _⟩ := rg'
    cases r1 with
    | cons r rr =>
      cases rr with
      | cons r' rr =>
        cases rr with
        | cons r'' rr =>
          cases rr
          obtain ⟨t1, rfl⟩ := r
          obtain ⟨t2, rfl⟩ := r'
          obtain ⟨t3, rfl⟩ := r''
          refine call_range_3 c0 ?_ (.inl (PyProof.noPylong_small c1))
          exact ⟨_, i, j, n, _, _, _, H1, rfl, IsRange.new _ _ _ _ _ _ _, I1.kept (t' := t.toks) fun b o e => Heap.get?_push_of_some _ e, rg, few, q⟩
  refine Call_ (ld_blt I gl ml boot_list (PyProof.Rows.callWith_type1 (args_cons (thn inner fun x t ⟨r, i, j, n, t1, t2, t3, H1, ex, hr, I1, rg, few, q⟩ => args_nil ?_) s1) s1))
  subst ex
  obtain ⟨c0, c1, c2, c3⟩ := rg
  refine call_list_range (n := n) (I1.ok.hd calm) hr c2 c3 few fun h' tk acc c' kept made items => ?_
  refine ⟨.ref t.heap.objs.size, _, I1.laid kept (Nat.le_refl _) (show ObjOk X.prog X.w _ _ _ (.lst (dnV i n)) from ⟨?_, acc.toList, c', vals_dn items, ?_⟩), rfl, q _ (I1.hok.fresh (Nat.le_refl _))⟩
  · unfold dnV
    rw [List.length_map, List.length_range, sizeLine_eq]; omega
  · rw [Array.toArray_toList]; exact made
def dLRgD (mu : Bool) (t : AA) : AE := fun E m Q => t E m fun us m1 => match us with
  | [.v (.int i), .v (.int j), .v (.int c)] => c = -1 ∧ (-4611686018427387904 ≤ i ∧ i < 4611686018427387904 ∧ -4611686018427387904 ≤ j ∧ j < 4611686018427387904) ∧ (i - j).toNat ≤ 16777216 ∧ nw mu ((dnI i (i - j).toNat).map .int) m1 Q
  | _ => False
theorem de_lRgD (mu : Bool) {a b c : Expr} {g : AA} {p p2 pos pos2 : Pos} (calm : X.calm = true) (ml : X.mg "list" = none) (mr : X.mg "range" = none) (ha : DA X [a, b, c] g) (gl : Gl X "list" := by rfl) (gr : Gl X "range" := by rfl)
    (s1 : starEach [.Call (.Name "range" p2) [a, b, c] [] pos2] X.env = (false, eval (.Call (.Name "range" p2) [a, b, c] [] pos2) X.env) :: starEach [] X.env := by rfl)
    (s2 : starEach [a, b, c] X.env = (false, eval a X.env) :: starEach [b, c] X.env := by rfl) (t2 : (backTo pos2 (starEach [b, c] X.env)).any (·.1) = false := by rfl) :
    DE X (.Call (.Name "list" p) [.Call (.Name "range" p2) [a, b, c] [] pos2] [] pos) (dLRgD mu g) :=
  pe_imp (pe_lRgD calm gl ml gr mr ha s1 s2 t2) fun σ H Q ⟨F, ro, E, m, Qa, cm, ce, hf, p⟩ =>
    ⟨F, ro, E, m, _, cm, ce, hf, fun F1 ro1 H1 us vs m1 g1 c1 i1 h1 => by
      revert h1
      split
      · rintro ⟨rfl, hb, few, h1⟩
        obtain ⟨v, w, x, rfl, i2, i3, i4⟩ := iu3 i1
        cases i2; cases i3; cases i4
        rename_i i j
        refine ⟨i, j, _, rfl, RgC.neg (by omega) (by omega) (by omega) (by omega), few, fun q hq => ?_⟩
        have ev : dnV i (i - j).toNat = (dnI i (i - j).toNat).map V.int := by unfold dnV dnI; rw [List.map_map]; rfl
        rw [ev]
        exact (p.at g1).nw c1 mu (IsDs.of_ints _) h1 q hq
      · exact fun h => h.elim⟩
end
end Z
/-! YA: sorted of alike data. -/
namespace Z
open PySem PySem.Spec PyProof.Rows L2
/-- what has to be known of data that are sorted -/
structure Srt (ds : List PyData) : Prop where
  sm : ∀ d ∈ ds, d.showable = true ∧ d.shown.length ≤ sizeLine ∧ d.depth ≤ 60
  al : PySem.W.AllAlike ds
  so : PySem.W.Sortable ds
def rSortD (K : PySem.W.Frag) : List V → Hp → VK → Prop := fun vs H Q => ∃ (F : Hp) (a : Addr) (xs : List V) (ds : List PyData), vs = [V.ref a] ∧ SqL K H a xs ∧ Same F H ∧ IsDs K F xs ds ∧ Srt ds ∧
  ∀ (ys : List V) (l' : List PyData), IsDs K F ys l' → l'.Perm ds → l'.Pairwise (fun x y => PySem.W.dataLt y x = false) → ∀ b, H b = none → Q (.ref b) (upd H b (.lst ys))
theorem each_of {K : PySem.W.Frag} {H : Hp} : ∀ {xs : List V} {ds : List PyData} {its : List Value}, IsDs K H xs ds → Vals xs its → PySem.W.EachIs (fun v (b : V × PyData) => RelV b.1 v ∧ IsD K H b.1 b.2 ∧ b.2 ∈ ds) its (xs.zip ds)
  | _, _, _, .nil, r => by cases r; exact .nil
  | _, _, _, .cons hi hr, r => by
    cases r with
    | cons r1 r2 => exact .cons ⟨r1, hi, List.mem_cons_self⟩ ((each_of hr r2).mono fun _ _ h => ⟨h.1, h.2.1, List.mem_cons_of_mem _ h.2.2⟩)
theorem each_back {K : PySem.W.Frag} {H : Hp} {D : List PyData} : ∀ {out : List Value} {bs : List (V × PyData)}, PySem.W.EachIs (fun v (b : V × PyData) => RelV b.1 v ∧ IsD K H b.1 b.2 ∧ b.2 ∈ D) out bs → Vals (bs.map (·.1)) out ∧ IsDs K H (bs.map (·.1)) (bs.map (·.2))
  | _, _, .nil => ⟨.nil, .nil⟩
  | _, _, .cons h t => ⟨.cons h.1 (each_back t).1, .cons h.2.1 (each_back t).2⟩
section
variable {X : Cx}
theorem cr_sortD (hu : X.A.units + 66 < cLine) : CallR X (.builtin "sorted") (rSortD X.K) := by
  intro pins s σ H vs us Q I r h
  obtain ⟨F, a, xs, ds, rfl, hs, sm, hd, S, q⟩ := h
  rw [Vals.ref1 r]
  obtain ⟨its, rv, pl, hz⟩ := I.list hs
  have ln := hd.length
  have e := each_of hd rv
  have eb : (xs.zip ds).map (·.2) = ds := List.map_snd_zip (by omega)
  have er : PySem.W.EachIs (fun v (b : V × PyData) => ∃ as, Reads s.heap v b.2 as) its (xs.zip ds) := e.mono fun v b h => by
    obtain ⟨s1, s2, _⟩ := S.sm _ h.2.2
    obtain ⟨as, _, ra, _⟩ := IsD.rk I (IsD.mono sm h.2.1) h.1 s1 s2
    exact ⟨as, ra⟩
  have zl : (xs.zip ds).length = xs.length := by rw [List.length_zip]; omega
  refine PySem.W.sorted_data (enc := fun (b : V × PyData) => b.2) pl.isList e er (by rw [eb]; exact S.al) (by rw [eb]; exact S.so) (by omega) (fun b hb => ?_) fun out ol eo => ?_
  · have := (S.sm b.2 (List.of_mem_zip hb).2).2.2
    omega
  · obtain ⟨v1, i1⟩ := each_back eo
    obtain ⟨c, hc⟩ := sortedAll_at s.heap its out.toArray
    have pm : ((xs.zip ds).mergeSort (PySem.W.dataLe false fun b => b.2)).Perm (xs.zip ds) := List.mergeSort_perm _ _
    have pw : ((xs.zip ds).mergeSort (PySem.W.dataLe false fun b => b.2)).Pairwise (fun x y => PySem.W.dataLe false (fun (b : V × PyData) => b.2) x y = true) := PySem.W.sort_pairwise (PySem.W.sortLe_total _ _ _) _
    have l2 : out.length ≤ sizeLine := by omega
    generalize (xs.zip ds).mergeSort (PySem.W.dataLe false fun b => b.2) = bs at eo v1 i1 pm pw
    have I2 : Inv X pins σ (upd H (s.heap.objs.size + 1) (.lst (bs.map (·.1)))) { s with heap := sortedAll s.heap its out.toArray } :=
      I.laid (t' := s.toks) (fun c o e => sortedAll_old e) (Nat.le_succ _) ⟨by rw [v1.length]; exact l2, out, c, v1, hc⟩
    refine ⟨.ref (s.heap.objs.size + 1), _, I2, rfl, q (bs.map (·.1)) (bs.map (·.2)) i1 ?_ ?_ _ (I.hok.fresh (Nat.le_succ _))⟩
    · have := pm.map (fun b => b.2)
      rw [eb] at this
      exact this
    · refine List.pairwise_map.mpr (pw.imp fun {x y} h => ?_)
      have h' : (!PySem.W.dataLt y.2 x.2) = true := h
      rw [Bool.not_eq_true'] at h'
      exact h'
/-- sorted(xs) of alike data -/
def aSortD (mu : Bool) : R1A := fun us m Q => match us with
  | [u] => (match asQ m u with
    | some ds => Srt ds ∧ ∀ l' : List PyData, l'.Perm ds → l'.Pairwise (fun x y => PySem.W.dataLt y x = false) → nw mu l' m Q
    | none => False)
  | _ => False
theorem sim_sortD {K : PySem.W.Frag} (mu : Bool) : SimC K (rSortD K) (aSortD mu) := by
  intro F ro H m us vs Q Qa c iu h p
  unfold aSortD at h
  split at h
  · rename_i u
    obtain ⟨v, rfl, i1⟩ := iu1 iu
    split at h
    · rename_i ds ed
      obtain ⟨a, xs, rfl, hs, hd⟩ := asQ_sq c i1 ed
      exact ⟨F, a, xs, ds, rfl, hs, c.ex, hd, h.1, fun ys l' iy pm pw b hb => p.nw c mu iy (h.2 l' pm pw) b hb⟩
    · exact h.elim
  · exact h.elim
end
end Z
namespace Z
open PySem PySem.Spec PyProof.Rows L2
/-! ### range(a, b, c), upwards -/
def stepN (i j c : Int) : Nat := if i < j then ((j - i - 1) / c + 1).toNat else 0
theorem stepN_le {i j c : Int} (hc : 1 ≤ c) : (stepN i j c : Int) ≤ max 0 (j - i) := by
  unfold stepN
  split
  · have h1 := Int.ediv_le_self c (show 0 ≤ j - i - 1 by omega)
    omega
  · omega
theorem RgC_up {i j c : Int} (hc : 1 ≤ c) (hc2 : c < 1000000000) (hi : 0 ≤ i ∧ i < 1000000000) (hj : 0 ≤ j ∧ j < 1000000000) : RgC i j c (stepN i j c) := by
  have rs : Builtin.Range.rangeSize i j c = (stepN i j c : Int) := by
    unfold Builtin.Range.rangeSize stepN
    rw [if_pos (by omega)]
    split
    · have h1 := Int.ediv_nonneg (show 0 ≤ j - i - 1 by omega) (show 0 ≤ c by omega)
      rw [Int.toNat_of_nonneg (by omega)]
    · rfl
  have n1 := stepN_le (i := i) (j := j) hc
  refine ⟨by omega, by omega, ?_, rs⟩
  unfold Builtin.Range.small
  rw [rs]
  have hp : c > 0 := by omega
  simp only [Builtin.Range.rangeFitsLong, Bool.and_eq_true, Bool.or_eq_true, decide_eq_true_eq, beq_iff_eq, hp, if_true]
  omega
def upU (lo c : Int) (n : Nat) : List U := (List.range n).map fun (i : Nat) => U.v (.int (lo + (i : Int) * c))
theorem up_ok {K : PySem.W.Frag} {F H : Hp} {ro : List Addr} (lo c : Int) (n : Nat) : ItOk K F ro H (Itc lo c n) (upU lo c n) fun _ => True := by
  have hl : (upU lo c n).length = n := by simp [upU]
  refine ⟨fun i F' ro' H' m' g c' gd hi => ?_, fun F' ro' H' m' g c' gd => ?_, fun i w F' ro' H' m' x H2 g c' gd hw hy => ?_⟩
  · show i < n
    omega
  · show n ≤ _
    omega
  · obtain ⟨rfl, rfl⟩ := hy
    unfold upU at hw
    rw [List.getElem?_map] at hw
    obtain ⟨dd, e1, e2⟩ := Option.map_eq_some_iff.mp hw
    obtain ⟨_, e3⟩ := List.getElem?_eq_some_iff.mp e1
    simp at e3
    subst e3 e2
    exact ⟨F', c', Gro.refl, .int _⟩
def sRngS (t : AA) : AI := fun E m R => t E m fun us m1 => match us with
  | [.v (.int i), .v (.int j), .v (.int c)] => (1 ≤ c ∧ c < 1000000000 ∧ 0 ≤ i ∧ i < 1000000000 ∧ 0 ≤ j ∧ j < 1000000000) ∧ R (upU i c (stepN i j c)) (fun _ => True) m1
  | _ => False
section
variable {X : Cx}
theorem di_rngS {tg a b c : Expr} {g : AA} {p pos : Pos} (hm : X.mg "range" = none) (ha : DA X [a, b, c] g) (hg : Gl X "range" := by rfl) (hs : starEach [a, b, c] X.env = (false, eval a X.env) :: starEach [b, c] X.env := by rfl) (hpl : (backTo pos (starEach [b, c] X.env)).any (·.1) = false := by rfl) :
    DI X tg (.Call (.Name "range" p) [a, b, c] [] pos) (sRngS g) :=
  pi_imp (pi_range3 hg hm ha hs hpl) fun σ H R ⟨F, ro, E, m, Ra, c, ce, hf, p⟩ =>
    ⟨F, ro, E, m, _, c, ce, hf, fun F1 ro1 H1 us vs m1 g1 c1 i1 h1 => by
      revert h1
      split
      · rintro ⟨⟨b1, b2, b3, b4, b5, b6⟩, h1⟩
        obtain ⟨v, w, x, rfl, i2, i3, i4⟩ := iu3 i1
        cases i2; cases i3; cases i4
        exact ⟨_, _, _, _, rfl, RgC_up b1 b2 ⟨b3, b4⟩ ⟨b5, b6⟩, p F1 ro1 H1 _ _ m1 _ g1 c1 (up_ok _ _ _) h1⟩
      · exact fun h => h.elim⟩
end
end Z
/-! YB: try .. except; a caught exception is a known thing from then on. -/
namespace Z
open PySem PySem.Spec PyProof.Rows L2

def excHO (a : Addr) (oe : Obj) : HO := .frz oe (.ext fun h => h.get? a = some oe)
section
variable {X : Cx} {pins : List (Addr × Obj)} {σ : L2.St} {H : Hp} {s : Shared} {a : Addr} {cls : Value} {d : Option Addr}
/-- an object of the heap that nobody tracks is tracked from now on -/
theorem Inv_track {oe : Obj} {vs : Array Value} (I : Inv X pins σ H s) (ha : s.heap.get? a = some oe) (hd : oe.data = .fields vs) (h0 : X.s_0.heap.get? a = none) (hn : H a = none) (nL : a ≠ X.env.locals) (np : ∀ p ∈ X.pn ++ pins, p.1 ≠ a) :
    Inv X pins σ (upd H a (excHO a oe)) s := by
  have old : ∀ {b o}, X.s_0.heap.get? b = some o → b ≠ a := fun {b o} e z => by rw [z, h0] at e; cases e
  have trk : ∀ {b o}, H b = some o → b ≠ a := fun {b o} e z => by rw [z, hn] at e; cases e
  have stay : ∀ {b o}, H b = some o → upd H a (excHO a oe) b = some o := fun {b o} e => (upd_ne (trk e)).trans e
  refine ⟨I.ok, I.os, I.bare, ⟨I.base.keep, I.base.slot, fun b o e n hx => (upd_ne (old e)).trans (I.base.free b o e n hx), I.base.there, fun b xs e => stay (I.base.tups b xs e), fun b o u e => stay (I.base.frzs b o u e), fun b ps e => ?_⟩,
    I.loc, I.cell, (upd_ne (Ne.symm nL)).trans I.free, fun x c e => ?_, fun p hp => ?_, fun b u e => ?_, I.len⟩
  · obtain ⟨m, q⟩ := I.base.tbls b ps e
    exact ⟨m, stay q⟩
  · refine (upd_ne fun z => ?_).trans (I.freeC x c e)
    obtain ⟨v, o, q, dd⟩ := I.cell x c e
    rw [z, ha] at q
    cases q
    rw [hd] at dd
    cases dd
  · obtain ⟨e, n, r⟩ := I.pin p hp
    exact ⟨e, (upd_ne (np p hp)).trans n, r⟩
  · by_cases hb : b = a
    · subst hb
      cases upd_same.symm.trans e
      exact ⟨ha, ha, ⟨oe, ha⟩, fun _ _ q k => k _ q⟩
    · exact (I.hok b u ((upd_ne hb).symm.trans e)).stay (fun _ _ _ q => q) (fun _ q => stay q) fun _ _ q => stay q
/-- the context of an except suite, the exception being tracked -/
abbrev suiteT (X : Cx) (a : Addr) : Cx := { X with A := X.A.mark (some (.ref a)), calm := false, xe := fun _ _ => False }
theorem invT (I : Inv X pins σ H s) (a : Addr) : Inv (suiteT X a) pins σ H s :=
  have ok := I.ok
  ⟨⟨ok.mod, ok.kind, ok.glob, ok.blt, ok.above, ok.inj, ok.has, ok.cab, (fun z => nomatch z), ok.frames, ok.stk, ok.exf, ok.bs, ok.bsz, ok.noex, ok.exfs, ok.funs, ok.frf⟩, I.os, I.bare, I.base, I.loc, I.cell, I.free, I.freeC, I.pin, I.hok, I.len⟩
theorem invU (I : Inv (suiteT X a) pins σ H s) (ok : X.Ok) : Inv X pins σ H s := ⟨ok, I.os, I.bare, I.base, I.loc, I.cell, I.free, I.freeC, I.pin, I.hok, I.len⟩
/-- an exception on the ground, amid a try: its object, and what may still change -/
structure Down (X : Cx) (pins : List (Addr × Obj)) (σ : L2.St) (H : Hp) (a : Addr) (cls : Value) (d : Option Addr) (s : Shared) : Prop where
  fly : ∃ B : Heap, HandSPX.FlyingZ B (X.env :: X.outer) a (L2N.Zn cls d) s.heap ∧ ∀ h : Heap, B.StaysIn h → s.heap.UpToSlots h → Inv X pins σ H { s with heap := h }
  inv : Inv X pins σ H s
  fresh : X.s_0.heap.get? a = none
  apart : ∀ p ∈ X.pn ++ pins, p.1 ≠ a
  loc : a ≠ X.env.locals
  fs : a ∉ X.fs
  free : H a = none
theorem Down.obj (D : Down X pins σ H a cls d s) : ∃ oe vs, s.heap.get? a = some oe ∧ L2N.Zn cls d oe ∧ oe.data = .fields vs := by
  obtain ⟨B, f, _⟩ := D.fly
  obtain ⟨oe, vs, q1, q2, q3⟩ := f.there
  exact ⟨oe, vs, q1, q2, q3⟩
/-- its flight is ended once more -/
theorem Down.again {E : Value → Shared → Prop} {A : Around} {Q : Unit → Shared → Prop} (D : Down X pins σ H a cls d s) (hQ : ∀ h, Down X pins σ H a cls d { s with heap := h } → Q () { s with heap := h }) :
    wpAny (model X.prog X.w) A (setFlight (.ref a) none) Q E s := by
  obtain ⟨B, f, k⟩ := D.fly
  refine HandSPX.lands_againZ f fun h g up => hQ h ⟨⟨B, g, fun h2 st u2 => k h2 st (up.trans u2)⟩, k h g.1 up, D.fresh, D.apart, D.loc, D.fs, D.free⟩
/-- the state in which the suite begins -/
theorem Down.suite (D : Down X pins σ H a cls d s) : ∃ oe vs, L2N.Zn cls d oe ∧ oe.data = .fields vs ∧ Inv (suiteT X a) pins σ (upd H a (excHO a oe)) s := by
  obtain ⟨oe, vs, q1, q2, q3⟩ := D.obj
  exact ⟨oe, vs, q2, q3, invT (Inv_track D.inv q1 q3 D.fresh D.free D.loc D.apart) a⟩
/-- out of the air of a try's body -/
theorem air_down {xe E : Value → Shared → Prop} {W : WX} {u : Value} (hex : X.ex = []) (hs : X.stack = X.env :: X.outer) (hf : X.env.frame = some X.env.locals) (ok : X.Ok) (xx : L2N.XE (X.tr (X.pn ++ pins) xe) W u s) :
    ∃ a cls d σ' H', u = .ref a ∧ W cls d σ' H' ∧ ∀ Q : Unit → Shared → Prop, (∀ h, Down X pins σ' H' a cls d { s with heap := h } → Q () { s with heap := h }) →
      wpAny (model X.prog X.w) X.A (noteFrame u X.env) (fun _ s₂ => wpAny (model X.prog X.w) X.A (setFlight u none) Q E s₂) E s := by
  obtain ⟨a, B, sI, _, σ', H', cls, d, rfl, J, nb, up, sky, na, os, ag, w⟩ := xx
  have nb' : ∀ b o, sI.heap.get? b = some o → b ∉ frs X.stack → B.get? b = some o := nb
  have J : Inv X pins σ' H' sI := J.ofTry ok
  refine ⟨a, cls, d, σ', H', rfl, w, fun Q hQ => ?_⟩
  refine L2N.Sky.land L2N.Zn.steady (by rw [ok.frames, hs]) hf (by rw [← hs]; exact sky) fun h f up2 => hQ h ?_
  obtain ⟨oe, vs, q1, q2, q3⟩ := f.there
  have nfr : a ∉ frs (X.env :: X.outer) := fun hm => by
    obtain ⟨_, o, e, nf⟩ := f.2.2.1.mem hm
    cases q1.symm.trans e
    exact nf _ q3
  have nI : ∀ o, sI.heap.get? a ≠ some o := fun o q => by
    have z := nb' a o q (by rw [hs]; exact nfr)
    rw [f.2.1] at z
    cases z
  have kI : ∀ h2 : Heap, B.StaysIn h2 → h.UpToSlots h2 → Inv X pins σ' H' { s with heap := h2 } := fun h2 st u2 => J.landed (s' := { s with heap := h2 }) nb' st ((up.trans up2).trans u2) os ag
  refine ⟨⟨B, f, kI⟩, kI h f.1 (Heap.UpToSlots.refl _), ?_, fun p hp z => nI p.2 ?_, fun z => nfr ?_, fun hm => nfr ?_, na⟩
  · cases q : X.s_0.heap.get? a with
    | none => rfl
    | some o =>
      obtain ⟨o', z⟩ := J.base.there a o q (by rw [hex]; exact fun z => nomatch z)
      exact absurd z (nI o')
  · rw [← z]; exact (J.pin p hp).1
  · exact List.mem_filterMap.mpr ⟨X.env, List.mem_cons_self, by rw [hf, z]⟩
  · obtain ⟨e, he, q⟩ := List.mem_filterMap.mp hm
    exact List.mem_filterMap.mpr ⟨e, List.mem_cons_of_mem _ he, q⟩
end
/-- what the only clause wishes of an exception of the body: it catches it -/
def wT (K : PySem.W.Frag) (c : Value) (on : Option Nat) (ts : Addr → TS) (D : Ends) : WX := fun cls d σ H => PySem.W.exmOne K cls c = some true ∧ ∀ a oe vs, H a = none → L2N.Zn cls d oe → oe.data = .fields vs → match on with
  | some i => ts a { nx := fun σ' H' => D.nx (σ'.set i none) H', rt := D.rt, bk := fun σ' H' => D.bk (σ'.set i none) H', ct := fun σ' H' => D.ct (σ'.set i none) H' } (σ.set i (some (.ref a))) (upd H a (excHO a oe))
  | none => ts a D σ (upd H a (excHO a oe))
section
variable {X : Cx} {x n : Str} {c : Value} {i : Nat} {body suite : List Stmt} {b₀ : Stmt} {np pos pos' : Pos} {tb : WX → TS} {ts : Addr → TS}
theorem clause_at {pins : List (Addr × Obj)} {σ : L2.St} {H : Hp} {s : Shared} {a : Addr} {cls : Value} {d : Option Addr} {E : Value → Shared → Prop} {Q : Bool → Shared → Prop} (hc : Names X x c) (D : Down X pins σ H a cls d s) (hm : PySem.W.exmOne X.K cls c = some true) (q : Q true s) :
    wpAny (model X.prog X.w) (X.A.mark (some (.ref a))) (eval (.Name x np) X.env) (fun c' s1 => wpAny (model X.prog X.w) (X.A.mark (some (.ref a))) (excMatches (.ref a) c') Q E s1) E s := by
  obtain ⟨oe, vs, q1, q2, q3⟩ := D.obj
  have S := D.inv.suite q1 q3 D.free D.loc D.fs
  have T : PySem.W.Looks (model X.prog X.w) s.heap (typeOf (.ref a)) cls := fun A Q E s k q => wpAny_typeOf_ref (k _ _ q1) (by rw [q2.1]; exact q)
  have L := (PySem.W.exm_one (M := model X.prog X.w) D.inv.kIn T hm).here (A := X.A.mark (some (.ref a))) (E := E) q
  obtain ⟨g1, g2, g3 | ⟨g3, g4, g5⟩⟩ := hc
  · exact ld_glob (X := X.suite a ((a, oe) :: (X.pn ++ pins))) S g1 g3 L g2
  · exact ld_blt (X := X.suite a ((a, oe) :: (X.pn ++ pins))) S g1 g3 g4 L g5 g2
theorem try_run {h₁ : ExceptHandler} {on : Option Nat} (hex : X.ex = []) (hs : X.stack = X.env :: X.outer) (hf : X.env.frame = some X.env.locals)
    (hb : ∀ (W : WX) (pn : List (Addr × Obj)) (xe : Value → Shared → Prop), L2N.Takes (X.tr pn xe) W → PassesOwn (model X.prog X.w) X.A X.env xe → PSs (X.tr pn xe) body (tb W))
    (hh : ∀ pins σ H s a cls d D, Down X pins σ H a cls d s → wT X.K c on ts D cls d σ H → X.Ok → wpAny (model X.prog X.w) X.A (handleBy (.ref a) X.env [h₁]) (SP X pins D) X.xe s) :
    PS X (.Try body [h₁] [] [] pos) (fun D σ H => tb (wT X.K c on ts D) D σ H) := by
  refine ⟨fun pins s σ H D I h => ?_⟩
  have ok := I.ok
  refine wpAny_Try_except (wpAny_mono ((hb (wT X.K c on ts D) (X.pn ++ pins) _ (fun u s' xx => ?_) PassesOwn.looking).run [] s σ H D (I.toTry _) h) (fun f s1 q => ?_) (fun e s1 he => he))
  · obtain ⟨a, cls, d, σ', H', rfl, w, k⟩ := air_down (E := X.xe) hex hs hf ok xx
    exact k _ fun h D' => hh pins σ' H' _ a cls d D D' w ok
  · cases f with
    | next => obtain ⟨σ', H', J, q⟩ := q; exact wpAny_execs_nil ⟨σ', H', J.ofTry ok, q⟩
    | brk => obtain ⟨σ', H', J, q⟩ := q; exact ⟨σ', H', J.ofTry ok, q⟩
    | cont => obtain ⟨σ', H', J, q⟩ := q; exact ⟨σ', H', J.ofTry ok, q⟩
    | ret u => obtain ⟨v, σ', H', J, r, q⟩ := q; exact ⟨v, σ', H', J.ofTry ok, r, q⟩
/-- try: body / except x as n: suite -/
theorem ps_tryAs (hex : X.ex = []) (hs : X.stack = X.env :: X.outer) (hf : X.env.frame = some X.env.locals) (hN : X.N.Nodup) (hi : X.N[i]? = some n) (hln : X.env.kindOf n = some .local) (hc : Names X x c)
    (hb : ∀ (W : WX) (pn : List (Addr × Obj)) (xe : Value → Shared → Prop), L2N.Takes (X.tr pn xe) W → PassesOwn (model X.prog X.w) X.A X.env xe → PSs (X.tr pn xe) body (tb W))
    (hsu : ∀ a : Addr, PSs (suiteT X a) (b₀ :: suite) (ts a)) :
    PS X (.Try body [.ExceptHandler (some (.Name x np)) (some n) (b₀ :: suite) pos'] [] [] pos) (fun D σ H => tb (wT X.K c (some i) ts D) D σ H) := by
  refine try_run hex hs hf hb fun pins σ H s a cls d D D' w ok => ?_
  refine wpAny_handleBy_cons (codeAny_handlers_test (clause_at hc D' w.1 ?_)) (fun q => nomatch q)
  refine codeAny_handlers_suite_as (D'.again fun h4 D4 => ?_)
  obtain ⟨oe, vs, z1, z2, S⟩ := D4.suite
  refine store_ok (X := suiteT X a) (v := .ref a) S hN hi (.inl hln) rfl (fun s5 S5 => ?_) (.inr hln)
  refine wpAny_mono ((hsu a).run pins s5 _ _ _ S5 (w.2 a oe vs D4.free z1 z2)) (fun f s6 q => ?_) (fun _ _ z => z.elim)
  have fin : ∀ {σ6 : L2.St} {H6 : Hp} {Q : Shared → Prop}, Inv (suiteT X a) pins σ6 H6 s6 → (∀ s7, Inv X pins (σ6.set i none) H6 s7 → Q s7) →
      wpAny (model X.prog X.w) X.A (do bindName X.env n .none; unbindBehindTheSuite X.env n pos') (fun _ s7 => Q s7) X.xe s6 := fun {σ6 H6 Q} S6 hq => gone_ok (invU S6 ok) hN hi hln hq
  cases f with
  | next => obtain ⟨σ6, H6, S6, q6⟩ := q; exact fin S6 fun s7 J => ⟨_, _, J, q6⟩
  | brk => obtain ⟨σ6, H6, S6, q6⟩ := q; exact fin S6 fun s7 J => ⟨_, _, J, q6⟩
  | cont => obtain ⟨σ6, H6, S6, q6⟩ := q; exact fin S6 fun s7 J => ⟨_, _, J, q6⟩
  | ret u => obtain ⟨v6, σ6, H6, S6, r6, q6⟩ := q; exact fin S6 fun s7 J => ⟨_, _, _, J, r6, q6⟩
/-- try: body / except x: suite -/
theorem ps_tryO (hex : X.ex = []) (hs : X.stack = X.env :: X.outer) (hf : X.env.frame = some X.env.locals) (hc : Names X x c)
    (hb : ∀ (W : WX) (pn : List (Addr × Obj)) (xe : Value → Shared → Prop), L2N.Takes (X.tr pn xe) W → PassesOwn (model X.prog X.w) X.A X.env xe → PSs (X.tr pn xe) body (tb W))
    (hsu : ∀ a : Addr, PSs (suiteT X a) (b₀ :: suite) (ts a)) :
    PS X (.Try body [.ExceptHandler (some (.Name x np)) none (b₀ :: suite) pos'] [] [] pos) (fun D σ H => tb (wT X.K c none ts D) D σ H) := by
  refine try_run hex hs hf hb fun pins σ H s a cls d D D' w ok => ?_
  refine wpAny_handleBy_cons (codeAny_handlers_test (clause_at hc D' w.1 ?_)) (fun q => nomatch q)
  refine codeAny_handlers_suite (D'.again fun h4 D4 => ?_)
  obtain ⟨oe, vs, z1, z2, S⟩ := D4.suite
  refine wpAny_mono ((hsu a).run pins _ _ _ _ S (w.2 a oe vs D4.free z1 z2)) (fun f s6 q => ?_) (fun _ _ z => z.elim)
  cases f with
  | next => obtain ⟨σ6, H6, S6, q6⟩ := q; exact ⟨_, _, invU S6 ok, q6⟩
  | brk => obtain ⟨σ6, H6, S6, q6⟩ := q; exact ⟨_, _, invU S6 ok, q6⟩
  | cont => obtain ⟨σ6, H6, S6, q6⟩ := q; exact ⟨_, _, invU S6 ok, q6⟩
  | ret u => obtain ⟨v6, σ6, H6, S6, r6, q6⟩ := q; exact ⟨_, _, _, invU S6 ok, r6, q6⟩
end
end Z
/-! YC: readings of what may raise: an exception is the name of its class, the slots and the store at that time. -/
namespace Z
open PySem PySem.Spec PyProof.Rows L2

/-! ### the classes of the text -/
def bmV : List Value := [.type "ValueError", .type "Exception", .type "BaseException", .type "object"]
/-- c is n's class or stands above it -/
def subNm (n c : Str) : Bool := n == c || c == "BacklinkError" || c == "ValueError"
def clsB (K : PySem.W.Frag) (nm : Str) : Bool := match PySem.W.nsIn K mainGlobals nm with
  | some (some (.ref C)) => PySem.W.excIn K C bmV "ValueError.__new__" && PySem.W.keepIn K (.ref C) && (PySem.W.subIn K (.ref C) (.type "BaseException") == some true) && (PySem.W.typeIn K (.ref C) == some (.type "type"))
    && (PySem.W.findIn K (.ref C) "__getattribute__" == some (some (.builtin "BaseException.__getattribute__"))) && (PySem.W.findIn K (.ref C) "__getattr__" == some none) && PySem.W.hasDictIn K C
    && (PySem.W.findIn K (.ref C) "__class__" == some (some (.builtin "object.__class__"))) && (PySem.W.mroIn K C (.type "object") == some true) && (PySem.W.kitOne K (.ref C) (.type "ValueError") == some true)
  | _ => false
def pairB (K : PySem.W.Frag) (n c : Str) : Bool := match PySem.W.nsIn K mainGlobals n, PySem.W.nsIn K mainGlobals c with
  | some (some (.ref D)), some (some (.ref C)) => (PySem.W.kitOne K (.ref D) (.ref C) == some (subNm n c)) && (PySem.W.exmOne K (.ref D) (.ref C) == some (subNm n c))
  | _, _ => false
/-- rs: classes that are raised with a text; cs: classes that are asked for -/
def exTab (K : PySem.W.Frag) (rs cs : List Str) : Bool := rs.all (fun n => clsB K n && cs.all (pairB K n)) && (PySem.W.specialIn K (.builtin "object.__class__") "__get__" == some (some (.builtin "getset_descriptor.__get__"))) && (PySem.W.takesIn K (.builtin "object.__class__") == some true)
structure ExT (K : PySem.W.Frag) (mg : Str → Option Value) (rs cs : List Str) : Prop where
  tab : exTab K rs cs = true
  gm : ∀ n v, PySem.W.nsIn K mainGlobals n = some (some v) → mg n = some v
structure Cls1 (K : PySem.W.Frag) (mg : Str → Option Value) (nm : Str) (C : Addr) : Prop where
  ns : PySem.W.nsIn K mainGlobals nm = some (some (.ref C))
  mg : mg nm = some (.ref C)
  ex : PySem.W.excIn K C bmV "ValueError.__new__" = true
  kp : PySem.W.keepIn K (.ref C) = true
  sb : PySem.W.subIn K (.ref C) (.type "BaseException") = some true
  ty : PySem.W.typeIn K (.ref C) = some (.type "type")
  is : ExcC K C
  val : PySem.W.kitOne K (.ref C) (.type "ValueError") = some true
section
variable {K : PySem.W.Frag} {mg : Str → Option Value} {rs cs : List Str} {nm c : Str}
theorem ExT.cls (x : ExT K mg rs cs) (h : nm ∈ rs) : ∃ C, Cls1 K mg nm C := by
  have t := x.tab
  unfold exTab at t
  simp only [Bool.and_eq_true, List.all_eq_true, beq_iff_eq] at t
  obtain ⟨⟨t1, t2⟩, t3⟩ := t
  have q := (t1 nm h).1
  unfold clsB at q
  split at q
  · rename_i C hC
    simp only [Bool.and_eq_true, beq_iff_eq] at q
    obtain ⟨⟨⟨⟨⟨⟨⟨⟨⟨q1, q2⟩, q3⟩, q4⟩, q5⟩, q6⟩, q7⟩, q8⟩, q9⟩, q10⟩ := q
    exact ⟨C, hC, x.gm _ _ hC, q1, q2, q3, q4, ⟨q5, q6, q3, q7, q8, t2, t3, q9⟩, q10⟩
  · cases q
theorem ExT.pair (x : ExT K mg rs cs) (h : nm ∈ rs) (hc : c ∈ cs) : ∃ D C, PySem.W.nsIn K mainGlobals nm = some (some (.ref D)) ∧ PySem.W.nsIn K mainGlobals c = some (some (.ref C)) ∧ mg c = some (.ref C) ∧
    PySem.W.kitOne K (.ref D) (.ref C) = some (subNm nm c) ∧ PySem.W.exmOne K (.ref D) (.ref C) = some (subNm nm c) := by
  have t := x.tab
  unfold exTab at t
  simp only [Bool.and_eq_true, List.all_eq_true, beq_iff_eq] at t
  have q := (t.1.1 nm h).2 c hc
  unfold pairB at q
  split at q
  · rename_i D C hD hC
    simp only [Bool.and_eq_true, beq_iff_eq] at q
    exact ⟨D, C, hD, hC, x.gm _ _ hC, q.1, q.2⟩
  · cases q
end

/-! ### judgements -/
abbrev XQ := Str → List PyData → Sto → Prop
abbrev XA := Str → List PyData → En → Sto → Prop
abbrev XS := XA → AS
abbrev XR := XA → AE
section
variable (K : PySem.W.Frag) (F : Hp) (ro : List Addr) (H : Hp)
def PostX (Xa : XA) (W : WX) : Prop := ∀ (F' : Hp) (ro' : List Addr) (H' : Hp) (σ' : L2.St) (E' : En) (m' : Sto) (nm : Str) (C : Addr), Gro F ro H F' ro' H' → ConM K F' ro' H' m' → ConE K F' ro' σ' E' → PySem.W.nsIn K mainGlobals nm = some (some (.ref C)) → Xa nm [] E' m' → W (.ref C) none σ' H'
def PostQ (Xq : XQ) (E : XK) : Prop := ∀ (F' : Hp) (ro' : List Addr) (H' : Hp) (m' : Sto) (nm : Str) (C : Addr), Gro F ro H F' ro' H' → ConM K F' ro' H' m' → PySem.W.nsIn K mainGlobals nm = some (some (.ref C)) → Xq nm [] m' → E (.ref C) none H'
end
def cX (K : PySem.W.Frag) (W : WX) (g : XS) : TS := fun D σ H => ∃ F ro E m Da Xa, ConM K F ro H m ∧ ConE K F ro σ E ∧ g Xa Da E m ∧ Mat K F ro H Da D ∧ PostX K F ro H Xa W
def cR (K : PySem.W.Frag) (W : WX) (g : XR) : TE := fun σ H Q => ∃ F ro E m Qa Xa, ConM K F ro H m ∧ ConE K F ro σ E ∧ g Xa E m Qa ∧ Post K F ro H Qa Q ∧ PostX K F ro H Xa W
abbrev DX (X : Cx) (W : WX) (st : Stmt) (g : XS) : Prop := PS X st (cX X.K W g)
abbrev DXs (X : Cx) (W : WX) (st : List Stmt) (g : XS) : Prop := PSs X st (cX X.K W g)
abbrev DR (X : Cx) (W : WX) (e : Expr) (g : XR) : Prop := PE X e (cR X.K W g)
section
variable {K : PySem.W.Frag} {F F1 H H1 : Hp} {ro ro1 : List Addr}
theorem PostX.at {Xa : XA} {W : WX} (p : PostX K F ro H Xa W) (g : Gro F ro H F1 ro1 H1) : PostX K F1 ro1 H1 Xa W := fun F' ro' H' σ' E' m' nm C g' => p F' ro' H' σ' E' m' nm C (g.trans g')
end
section
variable {X : Cx} {W : WX} {st : Stmt} {rest : List Stmt} {f g : XS} {pos : Pos}
theorem ps_nox {t : TS} (h : PS X.nox st t) : PS X st t := ⟨fun pins s σ H D I hw => wpAny_mono (h.run pins s σ H D (I.wish _) hw) (fun _ _ q => q.unwish) fun _ _ z => z.elim⟩
theorem dx_of {a : AS} (h : DS X.nox st a) : DX X W st (fun _ => a) := ps_imp (ps_nox h) fun D σ H ⟨F, ro, E, m, Da, Xa, c, ce, hf, p, px⟩ => ⟨F, ro, E, m, Da, c, ce, hf, p⟩
theorem dxs_nil : DXs X W [] (fun _ => dNext) := pss_imp pss_nil fun D σ H ⟨F, ro, E, m, Da, Xa, c, ce, hf, p, px⟩ => p.nx F ro H σ E m Gro.refl c ce hf
theorem dxs_cons (h1 : DX X W st f) (h2 : DXs X W rest g) : DXs X W (st :: rest) (fun Xa => dSeq (f Xa) (g Xa)) := pss_imp (pss_cons h1 h2) fun D σ H ⟨F, ro, E, m, Da, Xa, c, ce, hf, p, px⟩ =>
  ⟨F, ro, E, m, _, Xa, c, ce, hf, ⟨fun F1 ro1 H1 σ1 E1 m1 g1 c1 ce1 h1 => ⟨F1, ro1, E1, m1, Da, Xa, c1, ce1, h1, p.at g1, px.at g1⟩, p.rt, p.bk, p.ct⟩, px⟩
theorem dxs_one (h1 : DX X W st f) : DXs X W [st] f := pss_one h1
theorem dx_if {c : Expr} {a b : List Stmt} {tc : AT} (hc : DT X c tc) (ha : DXs X W a f) (hb : DXs X W b g) : DX X W (.If c a b pos) (fun Xa => dIfS tc (f Xa) (g Xa)) := ps_imp (ps_if hc ha hb) fun D σ H ⟨F, ro, E, m, Da, Xa, cm, ce, hf, p, px⟩ =>
  ⟨F, ro, E, m, _, cm, ce, hf, fun F1 ro1 H1 c m1 g1 c1 h1 => by
    cases c with
    | true => exact ⟨F1, ro1, E, m1, Da, Xa, c1, ce.mono g1, h1, p.at g1, px.at g1⟩
    | false => exact ⟨F1, ro1, E, m1, Da, Xa, c1, ce.mono g1, h1, p.at g1, px.at g1⟩⟩
theorem dx_for {tg iter : Expr} {body : List Stmt} {s : AI} {ga : AG} (hp : PassesOwn (model X.prog X.w) X.A X.env X.xe) (hc : X.calm = true) (hi : DI X tg iter s) (hg : DG X tg ga) (hb : DXs X W body f) (hs : ∀ x, foldedSetIterable iter X.env x = pure x := by intro _; rfl) :
    DX X W (.For tg iter body [] pos) (fun Xa => dFor s ga (f Xa)) :=
  ps_imp (ps_for hp hc hi hg hb hs) fun D σ H ⟨F, ro, E, m, Da, Xa, cm, ce, hf, p, px⟩ => by
    refine ⟨F, ro, E, m, _, cm, ce, hf, fun F1 ro1 H1 us gd m1 J g1 c1 ok h1 => ?_⟩
    refine ⟨fun i n σ' H' => n = us.length - i ∧ i ≤ us.length ∧ ∃ F' ro' E' m', Gro F1 ro1 H1 F' ro' H' ∧ ConM X.K F' ro' H' m' ∧ ConE X.K F' ro' σ' E' ∧ forU gd ga (f Xa) Da (us.drop i) E' m', ⟨us.length, rfl, Nat.zero_le _, F1, ro1, E, m1, Gro.refl, c1, ce.mono g1, h1⟩, ?_⟩
    rintro i n σ2 H2 ⟨en, hi, F2, ro2, E2, m2, g2, c2, ce2, h2⟩
    by_cases hlt : i < us.length
    · rw [List.drop_eq_getElem_cons hlt] at h2
      obtain ⟨hgd, h2⟩ := h2
      refine .inr ⟨ok.go i F2 ro2 H2 m2 g2 c2 hgd hlt, fun σ' H' => ∃ F' ro' E' m', Gro F1 ro1 H1 F' ro' H' ∧ ConM X.K F' ro' H' m' ∧ ConE X.K F' ro' σ' E' ∧ forU gd ga (f Xa) Da (us.drop (i + 1)) E' m', fun σ' H' h => ⟨us.length - (i + 1), by omega, rfl, hlt, h⟩, fun x H3 hy => ?_⟩
      obtain ⟨F3, c3, g3, iu⟩ := ok.yld i us[i] F2 ro2 H2 m2 x H3 g2 c2 hgd (List.getElem?_eq_getElem hlt) hy
      refine ⟨F3, ro2, E2, m2, _, _, c3, ce2.mono g3, iu, h2, fun F4 ro4 H4 σ4 E4 m4 g4 c4 ce4 h4 => ?_⟩
      have g14 := g2.trans (g3.trans g4)
      refine ⟨F4, ro4, E4, m4, _, Xa, c4, ce4, h4, ?_, px.at (g1.trans g14)⟩
      exact ⟨fun F5 ro5 H5 σ5 E5 m5 g5 c5 ce5 h5 => ⟨F5, ro5, E5, m5, g14.trans g5, c5, ce5, h5⟩, p.rt.at (g1.trans g14), p.nx.at (g1.trans g14), fun F5 ro5 H5 σ5 E5 m5 g5 c5 ce5 h5 => ⟨F5, ro5, E5, m5, g14.trans g5, c5, ce5, h5⟩⟩
    · have ei : i = us.length := by omega
      subst ei
      rw [List.drop_length] at h2
      exact .inl ⟨ok.stop F2 ro2 H2 m2 g2 c2 h2.1, p.nx F2 ro2 H2 σ2 E2 m2 (g1.trans g2) c2 ce2 h2.2⟩

/-! ### raise, calls that may raise -/
def xRaise (nm : Str) : XS := fun Xa _ E m => Xa nm [] E m
theorem dx_raise {rs cs : List Str} {nm m : Str} {j : Nat} {p p2 pos2 : Pos} (xt : ExT X.K X.mg rs cs) (hm : nm ∈ rs) (hc : X.calm = true) (tk : L2N.Takes X W) (hg : Gl X nm := by rfl) (hdb : (nm == ("__debug__" : Str)) = false := by decide) :
    DX X W (.Raise (some (.Call (.Name nm p) [.Constant (.str m) j p2] [] pos)) none pos2) (xRaise nm) := by
  obtain ⟨C, c⟩ := xt.cls hm
  exact ps_imp (L2N.ps_raise hc tk (L2N.pmk_own F.excBase_ValueError c.ex c.mg c.kp (raises_own c.sb c.ty) hg hdb)) fun D σ H ⟨F, ro, E, m, Da, Xa, cm, ce, hf, p, px⟩ => px F ro H σ E m nm C Gro.refl cm ce c.ns hf
abbrev AXp := List U → Sto → QA → XQ → Prop
def cSpX (K : PySem.W.Frag) (a : AXp) : Sp := fun vs H Q E => ∃ F ro m us Qa Xq, ConM K F ro H m ∧ IsUs K F ro us vs ∧ a us m Qa Xq ∧ Post K F ro H Qa Q ∧ PostQ K F ro H Xq E
structure FnX (P : Program) (w : World) (K : PySem.W.Frag) (mg : Str → Option Value) (base : Heap) (k : Nat) (f : Addr) (fd : FuncData) (ps : List Str) (a : AXp) : Prop where
  len : ∀ us m Q X, a us m Q X → us.length = ps.length
  run : ∀ (A : Around) (outer : List Env) (s : Shared) (H : Hp) (args : Args) (us : List Value) (vs : List V) (Q : VK) (E : XK), Room k A → A.guards = some [] → Env0 P w K mg base A outer s H → BindsTo s fd args (ps.zip us) → Vals vs us → cSpX K a vs H Q E →
    codeAny (model P w) A (.call (.ref f) args) (CR (L2N.CX P w) outer P w H s Q E) s
def rCall (a : AXp) (t : AA) : XR := fun Xa E m Q => t E m fun us m1 => a us m1 Q fun nm pl m2 => Xa nm pl E m2
structure CalX (P : Program) (w : World) (K : PySem.W.Frag) (mg : Str → Option Value) (base : Heap) (k : Nat) (x : Str) (ps : List Str) (a : AXp) : Prop where
  ex : ∃ f fd, FnX P w K mg base k f fd ps a ∧ mg x = some (.ref f) ∧ PySem.W.keepIn K (.ref f) = true ∧ Binds K fd ps []
theorem dr_cal {k j : Nat} {ps : List Str} {a : AXp} {x : Str} {p pos : Pos} {e : Expr} {es : List Expr} {ta : AA} (c : CalX X.prog X.w X.K X.mg X.base k x ps a) (hr : Room j X.A) (hgd : X.A.guards = some []) (tk : L2N.Takes X W) (ha : DA X (e :: es) ta) (hk : k ≤ j := by decide) (hg : Gl X x := by rfl)
    (hdb : (x == ("__debug__" : Str)) = false := by decide) (he : starEach (e :: es) X.env = (false, eval e X.env) :: starEach es X.env := by rfl) (hpl : (backTo pos (starEach es X.env)).any (·.1) = false := by rfl) :
    DR X W (.Call (.Name x p) (e :: es) [] pos) (rCall a ta) := by
  obtain ⟨f, fd, F, hm, kp, hb⟩ := c.ex
  refine ⟨fun pins s σ H Q I ⟨F0, ro, E, m, Qa, Xa, cm, ce, hf, po, px⟩ => ?_⟩
  refine wpAny_Call_Name_kw (ld_glob I hg hm ?_ hdb)
  refine PySem.W.callWith_K (h₀ := X.base) I.ok.mod.kin kp (thn (ha.run pos pins s σ H (fun vs H1 => cSpX X.K a vs H1 Q (fun cls d H2 => W cls d σ H2)) I ⟨F0, ro, E, m, _, cm, ce, hf, fun F1 ro1 H1 us vs m1 g1 c1 i1 h1 =>
    ⟨F1, ro1, m1, us, Qa, _, c1, i1, h1, po.at g1, fun F2 ro2 H2 m2 nm C g2 c2 hn hx => px F2 ro2 H2 σ E m2 nm C (g1.trans g2) c2 (ce.mono (g1.trans g2)) hn hx⟩⟩) fun us s1 ⟨vs, H1, I1, r, q⟩ => ⟨I1.kIn, ?_⟩) he hpl
  have hl : us.length = ps.length := by
    obtain ⟨F', ro', m', us', Qa', Xq', _, iu, ha', _⟩ := q
    rw [← r.length, ← iu.length]
    exact F.len _ _ _ _ ha'
  have hb' := hb s1 us I1.kIn (by simpa using hl)
  rw [List.append_nil] at hb'
  refine wpAny_call (codeAny_mono (F.run X.A X.stack s1 H1 ⟨us, []⟩ us vs Q _ (hr.mono hk) hgd I1.env0 hb' r q) fun r s' hq => ?_)
  cases r with
  | error e => exact tk _ _ (L2N.XE.of_call I1 (fun _ _ _ h => h) hq)
  | ok fl =>
    cases fl with
    | ret u => exact I1.after hq
    | next => exact False.elim hq
    | brk => exact False.elim hq
    | cont => exact False.elim hq
variable {e : Expr} {r : XR}
theorem dx_expr (he : DR X W e r) (hs : swapsWith e none pos.line X.env = pure false := by rfl) : DX X W (.Expr e pos) (fun Xa => dExpr (r Xa)) := ps_imp (ps_expr he hs) fun D σ H ⟨F, ro, E, m, Da, Xa, c, ce, hf, p, px⟩ =>
  ⟨F, ro, E, m, _, Xa, c, ce, hf, fun F1 ro1 H1 u v m1 g1 c1 i1 h1 => p.nx F1 ro1 H1 σ E m1 g1 c1 (ce.mono g1) h1, px⟩
theorem dx_ret (he : DR X W e r) : DX X W (.Return (some e) pos) (fun Xa => dRet (r Xa)) := ps_imp (ps_ret he) fun D σ H ⟨F, ro, E, m, Da, Xa, c, ce, hf, p, px⟩ => ⟨F, ro, E, m, _, Xa, c, ce, hf, p.rt, px⟩
theorem dx_set (i : Nat) {x : Str} {pos' : Pos} (hN : X.N.Nodup) (he : DR X W e r) (hi : X.N[i]? = some x := by rfl) (hx : Loc X.env.scope x := by first | exact Or.inl rfl | exact Or.inr rfl) (hs : swapsWith e (some (.Name x pos')) pos.line X.env = pure false := by rfl)
    (hf : X.fn x = true ∨ X.env.scope.names.lookup x = some .local := by first | exact .inl rfl | exact .inr rfl | assumption) : DX X W (.Assign [.Name x pos'] e pos) (fun Xa => dAsg i (r Xa)) := ps_imp (ps_set hN hi hx he hs hf) fun D σ H ⟨F, ro, E, m, Da, Xa, c, ce, hf, p, px⟩ =>
  ⟨F, ro, E, m, _, Xa, c, ce, hf, fun F1 ro1 H1 u v m1 g1 c1 i1 h1 => p.nx F1 ro1 H1 _ _ m1 g1 c1 ((ce.mono g1).set i i1) h1, px⟩
/-- a plain expression among those that may raise -/
theorem dr_of {a : AE} (h : DE X e a) : DR X W e (fun _ => a) := pe_imp h fun σ H Q ⟨F, ro, E, m, Qa, Xa, c, ce, hf, p, px⟩ => ⟨F, ro, E, m, Qa, c, ce, hf, p⟩
/-- a cell that is handed back is frozen -/
theorem dr_frz (he : DR X W e r) : DR X W e (fun Xa => dFrz (r Xa)) := pe_imp he fun σ H Q ⟨F, ro, E, m, Qa, Xa, c, ce, hf, p, px⟩ => by
  refine ⟨F, ro, E, m, _, Xa, c, ce, hf, fun F1 ro1 H1 u v m1 g1 c1 i1 h1 => ?_, px⟩
  revert h1
  dsimp only
  split
  · rename_i k
    split
    · rename_i l el
      intro h1
      obtain ⟨a, ha, ev⟩ := i1
      subst ev
      obtain ⟨F2, c2, g2, d2⟩ := c1.freeze ha el
      exact (p.at (g1.trans g2)).god c2 d2 h1
    · rename_i l el
      intro h1
      obtain ⟨a, ha, ev⟩ := i1
      subst ev
      obtain ⟨F2, c2, g2, d2⟩ := c1.dctFreeze ha el
      exact (p.at (g1.trans g2)).god c2 d2 h1
    · exact fun h => h.elim
  · exact fun h1 => (p.at g1).god c1 i1 h1
  · exact fun h => h.elim
  · exact fun h1 => (p.at g1).go (u := .o _) c1 i1 h1
end

/-! ### try -/
def dTry (rs : List Str) (b : XS) (c : Str) (i : Nat) (s : AS) : AS := fun D E m => b (fun nm pl E1 m1 => nm ∈ rs ∧ subNm nm c = true ∧
  s ⟨fun E2 m2 => D.nx (E2.set i none) m2, D.rt, fun E2 m2 => D.bk (E2.set i none) m2, fun E2 m2 => D.ct (E2.set i none) m2⟩ (E1.set i (some (.o (.exc nm pl)))) m1) D E m
def dTryO (rs : List Str) (b : XS) (c : Str) (s : AS) : AS := fun D E m => b (fun nm pl E1 m1 => nm ∈ rs ∧ subNm nm c = true ∧ s D E1 m1) D E m
section
variable {X : Cx} {rs cs : List Str} {c n : Str} {i : Nat} {body suite : List Stmt} {b₀ : Stmt} {np pos pos' : Pos} {b : XS} {sr : AS}
theorem post_unset {K : PySem.W.Frag} {F : Hp} {ro : List Addr} {H : Hp} {Qa : En → Sto → Prop} {Q : L2.St → Hp → Prop} (p : PostS K F ro H Qa Q) (i : Nat) : PostS K F ro H (fun E m => Qa (E.set i none) m) (fun σ H => Q (σ.set i none) H) :=
  fun F' ro' H' σ' E' m' g c ce h => p F' ro' H' _ _ m' g c (ce.unset i) h
theorem ds_tryAs (xt : ExT X.K X.mg rs cs) (hcs : c ∈ cs) (hrs : rs ≠ []) (hN : X.N.Nodup)
    (hb : ∀ (W : WX) (pn : List (Addr × Obj)) (xe : Value → Shared → Prop), L2N.Takes (X.tr pn xe) W → PassesOwn (model X.prog X.w) X.A X.env xe → DXs (X.tr pn xe) W body b) (hsu : ∀ a : Addr, DSs (suiteT X a) (b₀ :: suite) sr)
    (hex : X.ex = [] := by rfl) (hs : X.stack = X.env :: X.outer := by rfl) (hf : X.env.frame = some X.env.locals := by rfl) (hi : X.N[i]? = some n := by rfl) (hln : X.env.kindOf n = some .local := by rfl) (hg : Gl X c := by rfl) (hdb : (c == ("__debug__" : Str)) = false := by decide) :
    DS X (.Try body [.ExceptHandler (some (.Name c np)) (some n) (b₀ :: suite) pos'] [] [] pos) (dTry rs b c i sr) := by
  obtain ⟨r0, hr0⟩ := List.exists_mem_of_ne_nil rs hrs
  obtain ⟨_, C, _, hC, hmC, _⟩ := xt.pair hr0 hcs
  refine ps_imp (ps_tryAs hex hs hf hN hi hln (c := .ref C) ⟨hg, hdb, .inl hmC⟩ (tb := fun W => cX X.K W b) (ts := fun _ => cS X.K sr) hb hsu) fun D σ H ⟨F, ro, E, m, Da, cm, ce, hf, p⟩ => ?_
  refine ⟨F, ro, E, m, Da, _, cm, ce, hf, p, fun F1 ro1 H1 σ1 E1 m1 nm B g1 c1 ce1 hn ⟨h1, h2, h3⟩ => ?_⟩
  obtain ⟨B', C', hB', hC', _, _, hx⟩ := xt.pair h1 hcs
  cases hn.symm.trans hB'
  cases hC.symm.trans hC'
  refine ⟨by rw [hx, h2], fun a oe vs ha hz hd => ?_⟩
  obtain ⟨c2, g2⟩ := c1.known ha (excHO a oe)
  have g12 := g1.trans g2
  refine ⟨upd F1 a (excHO a oe), ro1, E1.set i (some (.o (.exc nm []))), m1, _, c2, (ce1.mono g2).set i (u := .o (.exc nm [])) (v := .ref a) ⟨rfl, a, oe, _, rfl, upd_same, ⟨B, hz.1, hn⟩, hz.2.1, ⟨vs, hd, hz.2.2 vs hd⟩⟩, h3, ?_⟩
  exact ⟨post_unset (p.nx.at g12) i, p.rt.at g12, post_unset (p.bk.at g12) i, post_unset (p.ct.at g12) i⟩
theorem ds_tryO (xt : ExT X.K X.mg rs cs) (hcs : c ∈ cs) (hrs : rs ≠ [])
    (hb : ∀ (W : WX) (pn : List (Addr × Obj)) (xe : Value → Shared → Prop), L2N.Takes (X.tr pn xe) W → PassesOwn (model X.prog X.w) X.A X.env xe → DXs (X.tr pn xe) W body b) (hsu : ∀ a : Addr, DSs (suiteT X a) (b₀ :: suite) sr)
    (hex : X.ex = [] := by rfl) (hs : X.stack = X.env :: X.outer := by rfl) (hf : X.env.frame = some X.env.locals := by rfl) (hg : Gl X c := by rfl) (hdb : (c == ("__debug__" : Str)) = false := by decide) :
    DS X (.Try body [.ExceptHandler (some (.Name c np)) none (b₀ :: suite) pos'] [] [] pos) (dTryO rs b c sr) := by
  obtain ⟨r0, hr0⟩ := List.exists_mem_of_ne_nil rs hrs
  obtain ⟨_, C, _, hC, hmC, _⟩ := xt.pair hr0 hcs
  refine ps_imp (ps_tryO hex hs hf (c := .ref C) ⟨hg, hdb, .inl hmC⟩ (tb := fun W => cX X.K W b) (ts := fun _ => cS X.K sr) hb hsu) fun D σ H ⟨F, ro, E, m, Da, cm, ce, hf, p⟩ => ?_
  refine ⟨F, ro, E, m, Da, _, cm, ce, hf, p, fun F1 ro1 H1 σ1 E1 m1 nm B g1 c1 ce1 hn ⟨h1, h2, h3⟩ => ?_⟩
  obtain ⟨B', C', hB', hC', _, _, hx⟩ := xt.pair h1 hcs
  cases hn.symm.trans hB'
  cases hC.symm.trans hC'
  refine ⟨by rw [hx, h2], fun a oe vs ha hz hd => ?_⟩
  obtain ⟨c2, g2⟩ := c1.known ha (excHO a oe)
  exact ⟨upd F1 a (excHO a oe), ro1, E1, m1, _, c2, ce1.mono g2, h3, p.at (g1.trans g2)⟩
end
end Z
/-! YD: defs that may raise; isinstance of an exception. -/
namespace Z
open PySem PySem.Spec PyProof.Rows L2 StX
section
variable {P : Program} {w : World} {K : PySem.W.Frag} {mg : Str → Option Value} {base : Heap}
/-- an exception leaves the def: its own cells are forgotten -/
def endX (n : Nat) (Xq : XQ) : XA := fun nm pl _ m => Xq nm pl (m.take n)
/-- what leaves a def's body -/
abbrev leaves (E : XK) : WX := fun cls d _ H => E cls d H
theorem start_X {F0 : Hp} {ro : List Addr} {H : Hp} {m : Sto} {Xq : XQ} {E : XK} (cm : ConM K F0 ro H m) (p : PostQ K F0 ro H Xq E) : PostX K F0 ro H (endX m.length Xq) (leaves E) := fun F' ro' H' σ' E' m' nm C g' c' ce hn hx => by
  obtain ⟨t, et, nt⟩ := g'.more
  subst et
  have cc := c'.cut
  rw [cm.len] at cc
  exact p F' ro H' _ nm C g'.cut cc hn hx
/-- positional arguments -/
theorem bnd_pos {CX : CXT} {fd : FuncData} {ps : List Str} {A : Around} {outer : List Env} {s : Shared} {H : Hp} {E : XK} {args : Args} {us : List Value} {vs : List V} (e0 : Env0 P w K mg base A outer s H) (hb : BindsTo s fd args (ps.zip us)) (r : Vals vs us) (hl : vs.length = ps.length) :
    Bnd CX P w K mg base fd args ps A outer s H E (fun ws H2 => ws = vs ∧ H2 = H) := fun A' Ex R h => hb _ _ _ _ (h s H vs us e0 (.refl ..) rfl (fun _ _ z => z) r hl ⟨rfl, rfl⟩)
theorem CalX.mk' {k : Nat} {x : Str} {st : Stmt} {N ps : List Str} {a : AXp} {g : XS} (d : Dfn K mg x st ps) (S : FnScope N ps (defScope st)) (len : ∀ us m Q X, a us m Q X → us.length = ps.length)
    (body : ∀ (f : Addr) (cdv : Value) (A : Around) (outer : List Env) (s : Shared) (H : Hp) (E : XK), Room k (A.deeper (envOfC x (defScope st) s.heap.objs.size f cdv)) → (A.deeper (envOfC x (defScope st) s.heap.objs.size f cdv)).guards = some [] →
      L2N.Takes (cxOf (L2N.CX P w) P w K mg base N x (defScope st) f cdv A outer s H E) (leaves E) → PassesOwn (model P w) (cxOf (L2N.CX P w) P w K mg base N x (defScope st) f cdv A outer s H E).A (cxOf (L2N.CX P w) P w K mg base N x (defScope st) f cdv A outer s H E).env (cxOf (L2N.CX P w) P w K mg base N x (defScope st) f cdv A outer s H E).xe →
      DXs (cxOf (L2N.CX P w) P w K mg base N x (defScope st) f cdv A outer s H E) (leaves E) (defBody st) g)
    (sem : ∀ us m Q X, a us m Q X → g (endX m.length X) (endsD m.length Q) (startU N.length us) m) : CalX P w K mg base (k + 1) x ps a := by
  obtain ⟨f, fd, Fn, hm, hb⟩ := d.ex
  refine ⟨f, fd, ⟨len, fun A outer s H args us vs Q E hr hg e0 hbt r hsp => ?_⟩, hm, Fn.kp, hb⟩
  obtain ⟨oc, od, kV, doc, pm, an, cdv, ct, osl, rfl, lk, hcd⟩ := Fn.ex
  obtain ⟨F0, ro, m, us', Qa, Xq, cm, iu, ha, p, px⟩ := hsp
  have hl : vs.length = ps.length := by rw [← iu.length]; exact len _ _ _ _ ha
  have hpl : ps.length ≤ N.length := by have := congrArg List.length S.pre; rw [List.length_take] at this; omega
  refine run_bnd lk hcd S hr e0 (bnd_pos e0 hbt r hl) fun s2 H2 xs hx hr' => ?_
  obtain ⟨rfl, rfl⟩ := hx
  refine ⟨cX K (leaves E) g, body f cdv A outer s2 H2 E hr' hg (L2N.takes_of rfl rfl rfl rfl) (passes_of rfl), ?_⟩
  obtain ⟨ce, mt⟩ := start_parts cm iu (show xs.length ≤ N.length by omega) p
  exact ⟨F0, ro, startU N.length us', m, _, _, cm, ce, sem _ _ _ _ ha, mt, start_X cm px⟩
end

/-! ### isinstance -/
def dIsx (rs : List Str) (c : Str) (t : AE) : AE := fun E m Q => t E m fun u m1 => match u with
  | .o (.exc nm _) => nm ∈ rs ∧ Q (.v (.bool (subNm nm c))) m1
  | _ => False
def dIsxT (rs cs : List Str) (t : AE) : AE := fun E m Q => t E m fun u m1 => match u with
  | .o (.exc nm _) => nm ∈ rs ∧ Q (.v (.bool (cs.any (subNm nm)))) m1
  | _ => False
def rIsx (K : PySem.W.Frag) : List V → Hp → VK → Prop := fun vs H Q => ∃ (a D : Addr) (oe : Obj) (u : HO) (xs : Array Value) (c : V) (cv : Value) (b : Bool), vs = [.ref a, c] ∧ H a = some (.frz oe u) ∧ oe.cls = .ref D ∧ oe.dict = none ∧ oe.data = .fields xs ∧ ExcC K D ∧
  (∀ z, RelV c z → z = cv) ∧ PySem.W.kitOne K (.ref D) cv = some b ∧ Q (.bl b) H
def rIsxT (K : PySem.W.Frag) : List V → Hp → VK → Prop := fun vs H Q => ∃ (a D t : Addr) (oe : Obj) (u : HO) (xs : Array Value) (ws : List Addr) (b : Bool), vs = [.ref a, .ref t] ∧ H a = some (.frz oe u) ∧ oe.cls = .ref D ∧ oe.dict = none ∧ oe.data = .fields xs ∧ ExcC K D ∧
  H t = some (.tup (ws.map V.ref)) ∧ PySem.W.kitAny K (.ref D) (ws.map Value.ref) = some b ∧ Q (.bl b) H
theorem vals_refs : ∀ {ws : List Addr} {us : List Value}, Vals (ws.map V.ref) us → us = ws.map Value.ref
  | [], _, h => by cases h; rfl
  | _ :: _, _, h => by
    cases h with
    | cons a b => cases a; rw [vals_refs b]; rfl
section
variable {X : Cx}
theorem inst_at {pins : List (Addr × Obj)} {σ : L2.St} {H : Hp} {s : Shared} {a D : Addr} {oe : Obj} {u : HO} {xs : Array Value} (I : Inv X pins σ H s) (h : H a = some (.frz oe u)) (h1 : oe.cls = .ref D) (h2 : oe.dict = none) (h3 : oe.data = .fields xs) : PySem.W.InstAt s.heap a oe D none := by
  obtain ⟨hget, _⟩ := I.hok a _ h
  obtain ⟨oc, od, oda, osl⟩ := oe
  dsimp only at h1 h2 h3
  subst h1 h2 h3
  exact ⟨hget, rfl, rfl, trivial⟩
theorem call_isx : CallR X (.builtin "isinstance") (rIsx X.K) := by
  intro pins s σ H vs us Q I r h
  obtain ⟨a, D, oe, u, xs, c, cv, b, rfl, ha, h1, h2, h3, ec, hcv, e, q⟩ := h
  cases r with
  | cons rx rr =>
    cases rr with
    | cons rt rr =>
      cases rr
      cases rx
      cases hcv _ rt
      exact PySem.W.kia_one (PySem.W.handS_kitx_exc ec.hg ec.hk ec.hs ec.hd ec.ha ec.hn ec.ht ec.hm) I.kIn (inst_at I ha h1 h2 h3) e (fun z => nomatch z) fun tk => ⟨.bl b, H, I.kept (t' := tk) fun _ _ z => z, rfl, q⟩
theorem call_isxT : CallR X (.builtin "isinstance") (rIsxT X.K) := by
  intro pins s σ H vs us Q I r h
  obtain ⟨a, D, t, oe, u, xs, ws, b, rfl, ha, h1, h2, h3, ec, ht, e, q⟩ := h
  cases r with
  | cons rx rr =>
    cases rr with
    | cons rt rr =>
      cases rr
      cases rx
      cases rt
      obtain ⟨_, its, rv, o, hget, hc, n, hdat⟩ := I.hok t _ ht
      cases vals_refs rv
      obtain ⟨oc, od, oda, osl⟩ := o
      dsimp only at hc hdat
      subst hc hdat
      exact PySem.W.kia_tup (PySem.W.handS_kitx_exc ec.hg ec.hk ec.hs ec.hd ec.ha ec.hn ec.ht ec.hm) I.kIn (inst_at I ha h1 h2 h3) hget e (fun z => nomatch z) fun tk => ⟨.bl b, H, I.kept (t' := tk) fun _ _ z => z, rfl, q⟩
variable {rs cs : List Str} {e : Expr} {f : AE}
theorem de_isx {c : Str} {p1 p2 pos : Pos} (xt : ExT X.K X.mg rs cs) (hcs : c ∈ cs) (hrs : rs ≠ []) (he : DE X e f) (hm : X.mg "isinstance" = none) (hg : Gl X "isinstance" := by rfl) (hgT : Gl X c := by rfl) (hdb : (c == ("__debug__" : Str)) = false := by decide)
    (hs : starEach [e, .Name c p2] X.env = (false, eval e X.env) :: starEach [.Name c p2] X.env := by rfl) (hs2 : starEach [.Name c p2] X.env = (false, eval (.Name c p2) X.env) :: starEach [] X.env := by rfl)
    (hpl : (backTo pos (starEach [.Name c p2] X.env)).any (·.1) = false := by rfl) : DE X (.Call (.Name "isinstance" p1) [e, .Name c p2] [] pos) (dIsx rs c f) := by
  obtain ⟨r0, hr0⟩ := List.exists_mem_of_ne_nil rs hrs
  obtain ⟨_, C, _, hC, hmC, _⟩ := xt.pair hr0 hcs
  exact pe_imp (pe_callB call_isx hg hm (by decide +kernel) (pa_cons he (pa_cons (pe_glob (v := .ref C) hgT hmC rfl hdb) pa_nil hs2) hs) (he := hs) (hpl := hpl)) fun σ H Q ⟨F, ro, E, m, Qa, cm, ce, hf, p⟩ =>
    ⟨F, ro, E, m, _, cm, ce, hf, fun F1 ro1 H1 u v m1 g1 c1 i1 h1 => by
      revert h1
      split
      · rename_i nm pl
        rintro ⟨hn, h1⟩
        obtain ⟨_, a, oe, u, rfl, ha, ⟨D, hD, hns⟩, hdi, xs, hxs, _⟩ := i1
        obtain ⟨D', c1'⟩ := xt.cls hn
        obtain ⟨D'', C', q1, q2, _, q3, _⟩ := xt.pair hn hcs
        cases hns.symm.trans c1'.ns
        cases hns.symm.trans q1
        cases hC.symm.trans q2
        exact ⟨a, D, oe, u, xs, .ref C, .ref C, _, rfl, c1.ex _ _ ha, hD, hdi, hxs, c1'.is, fun z hz => hz, q3, (p.at g1).god c1 (.bl _) h1⟩
      · exact fun h => h.elim⟩
/-- .. of ValueError -/
theorem de_isxV {p1 p2 pos : Pos} (xt : ExT X.K X.mg rs cs) (he : DE X e f) (hm : X.mg "isinstance" = none) (hmT : X.mg "ValueError" = none) (hg : Gl X "isinstance" := by rfl) (hgT : Gl X "ValueError" := by rfl)
    (hs : starEach [e, .Name "ValueError" p2] X.env = (false, eval e X.env) :: starEach [.Name "ValueError" p2] X.env := by rfl) (hs2 : starEach [.Name "ValueError" p2] X.env = (false, eval (.Name "ValueError" p2) X.env) :: starEach [] X.env := by rfl)
    (hpl : (backTo pos (starEach [.Name "ValueError" p2] X.env)).any (·.1) = false := by rfl) : DE X (.Call (.Name "isinstance" p1) [e, .Name "ValueError" p2] [] pos) (dIsx rs "ValueError" f) := by
  exact pe_imp (pe_callB call_isx hg hm (by decide +kernel) (pa_cons he (pa_cons (pe_bltn (v := .ty "ValueError") hgT hmT (u := .type "ValueError") (by decide +kernel) rfl) pa_nil hs2) hs) (he := hs) (hpl := hpl)) fun σ H Q ⟨F, ro, E, m, Qa, cm, ce, hf, p⟩ =>
    ⟨F, ro, E, m, _, cm, ce, hf, fun F1 ro1 H1 u v m1 g1 c1 i1 h1 => by
      revert h1
      split
      · rename_i nm pl
        rintro ⟨hn, h1⟩
        obtain ⟨_, a, oe, u, rfl, ha, ⟨D, hD, hns⟩, hdi, xs, hxs, _⟩ := i1
        obtain ⟨D', c1'⟩ := xt.cls hn
        cases hns.symm.trans c1'.ns
        have et : subNm nm "ValueError" = true := by unfold subNm; simp
        rw [et] at h1
        exact ⟨a, D, oe, u, xs, .ty "ValueError", .type "ValueError", true, rfl, c1.ex _ _ ha, hD, hdi, hxs, c1'.is, fun z hz => hz, c1'.val, (p.at g1).god c1 (.bl _) h1⟩
      · exact fun h => h.elim⟩
/-- .. of a tuple of classes -/
inductive NamesC (X : Cx) : List Expr → List Str → Prop
  | nil : NamesC X [] []
  | cons {c : Str} {p : Pos} {es : List Expr} {ks : List Str} (h : NamesC X es ks) (hg : Gl X c := by rfl) (hdb : (c == ("__debug__" : Str)) = false := by decide) : NamesC X (.Name c p :: es) (c :: ks)
theorem pa_names (xt : ExT X.K X.mg rs cs) (hrs : rs ≠ []) {es : List Expr} {ks : List Str} (h : NamesC X es ks) : (∀ c ∈ ks, c ∈ cs) → ∃ ws : List Addr, ws.length = ks.length ∧ PA X es (fun σ H Q => Q (ws.map V.ref) H) ∧
    ∀ nm ∈ rs, ∀ D, PySem.W.nsIn X.K mainGlobals nm = some (some (.ref D)) → PySem.W.kitAny X.K (.ref D) (ws.map Value.ref) = some (ks.any (subNm nm)) := by
  induction h with
  | nil => exact fun _ => ⟨[], rfl, pa_imp pa_nil fun _ _ _ h => h, fun nm _ D _ => rfl⟩
  | cons h hg hdb ih =>
    intro hk
    rename_i c p es ks
    obtain ⟨ws, wl, hp, hq⟩ := ih fun c hc => hk c (List.mem_cons_of_mem _ hc)
    obtain ⟨r0, hr0⟩ := List.exists_mem_of_ne_nil rs hrs
    obtain ⟨_, C, _, hC, hmC, _⟩ := xt.pair hr0 (hk c List.mem_cons_self)
    refine ⟨C :: ws, by rw [List.length_cons, List.length_cons, wl], pa_imp (pa_cons (pe_glob (v := .ref C) hg hmC rfl hdb) hp rfl) fun _ _ _ h => h, fun nm hn D hD => ?_⟩
    obtain ⟨D', C', q1, q2, _, q3, _⟩ := xt.pair hn (hk c List.mem_cons_self)
    cases hD.symm.trans q1
    cases hC.symm.trans q2
    rw [List.map_cons, PySem.W.kitAny, q3, List.any_cons]
    cases subNm nm c with
    | true => rfl
    | false => exact hq nm hn D hD
theorem de_isxT {es : List Expr} {ks : List Str} {kk : Nat} {p1 tpos pos : Pos} (xt : ExT X.K X.mg rs cs) (hrs : rs ≠ []) (he : DE X e f) (hm : X.mg "isinstance" = none) (hn : NamesC X es ks) (hks : ∀ c ∈ ks, c ∈ cs) (hz : ks.length ≤ 100) (hg : Gl X "isinstance" := by rfl)
    (hs : starEach [e, .Tuple es kk tpos] X.env = (false, eval e X.env) :: starEach [.Tuple es kk tpos] X.env := by rfl) (hs2 : starEach [.Tuple es kk tpos] X.env = (false, eval (.Tuple es kk tpos) X.env) :: starEach [] X.env := by rfl)
    (hpl : (backTo pos (starEach [.Tuple es kk tpos] X.env)).any (·.1) = false := by rfl) : DE X (.Call (.Name "isinstance" p1) [e, .Tuple es kk tpos] [] pos) (dIsxT rs ks f) := by
  obtain ⟨ws, wl, hp, hq⟩ := pa_names xt hrs hn hks
  exact pe_imp (pe_callB call_isxT hg hm (by decide +kernel) (pa_cons he (pa_cons (pe_tup hp) pa_nil hs2) hs) (he := hs) (hpl := hpl)) fun σ H Q ⟨F, ro, E, m, Qa, cm, ce, hf, p⟩ =>
    ⟨F, ro, E, m, _, cm, ce, hf, fun F1 ro1 H1 u v m1 g1 c1 i1 h1 => by
      revert h1
      split
      · rename_i nm pl
        rintro ⟨hn, h1⟩
        obtain ⟨_, a, oe, u, rfl, ha, ⟨D, hD, hns⟩, hdi, xs, hxs, _⟩ := i1
        obtain ⟨D', c1'⟩ := xt.cls hn
        cases hns.symm.trans c1'.ns
        refine ⟨by rw [List.length_map, wl, sizeLine_eq]; omega, fun t ht => ?_⟩
        obtain ⟨c2, g2⟩ := c1.known ht (.tup (ws.map V.ref))
        exact ⟨a, D, t, oe, u, xs, ws, _, rfl, c2.ex _ _ (g2.ex _ _ ha), hD, hdi, hxs, c1'.is, upd_same, hq nm hn D hns, (p.at (g1.trans g2)).god c2 (.bl _) h1⟩
      · exact fun h => h.elim⟩
end
end Z
/-! YE: list(range(a, b)) for ints of any size. -/
namespace Z
open PySem PySem.Spec PyProof.Rows L2
section
variable {prog : Program} {w : World} {A : Around} {s : Shared} {R : Result → Shared → Prop} {r S : Addr} {a b : Int} {t u v : Tok} {n : Nat}
abbrev longO (a : Int) (n : Nat) : Obj := { cls := .type "longrange_iterator", data := .fields #[rawInt a, rawInt (n : Int), rawInt 1] }
/-- the list at S, empty, takes all of a range of great ints -/
theorem fill_long (calm : A.handled = none) (hr : IsRange s.heap r a b 1 t u v) (big : Builtin.Range.small a b 1 = false) (hn : Builtin.Range.rangeSize a b 1 = n) (few : n ≤ 2 ^ 24) {c : Nat}
    (hS : s.heap.get? S = some { cls := .type "list", dict := none, data := .seq #[] c, slots := #[] })
    (done : ∀ h' k acc c', (∀ x o, x ≠ S → s.heap.get? x = some o → h'.get? x = some o) → h'.get? S = some { cls := .type "list", dict := none, data := .seq acc c', slots := #[] } → ItemsOf (fun i z => ∃ t, z = .int (a + i * 1) t) acc n →
      R (.ok (.ret .none)) { s with heap := h', toks := k }) :
    wpAny (model prog w) A.in1 (Builtin.List.listExtendWith (.ref S) (.ref r) .none) (fun fin s' => match fin with | .done f => R (.ok f) s' | .again c' => c'.quiet = true ∧ codeAny (model prog w) A c' R s') (fun e s' => R (.error e) s') s := by
  have ne : S ≠ r := fun e => by
    rw [e, hr] at hS
    simp at hS
  have nI : S ≠ s.heap.objs.size := Nat.ne_of_lt (Heap.lt_size hS)
  have go : ∀ (h : Heap) (c1 k : Nat), IsLongIter h s.heap.objs.size (a + ((0 : Nat) : Int) * 1) ((n : Int) - ((0 : Nat) : Int)) 1 → (∀ x o, x ≠ S → s.heap.get? x = some o → h.get? x = some o) → h.get? S = some { cls := .type "list", data := .seq #[] c1 } →
      codeAny (model prog w) A (.builtin "list.extend.loop" ⟨[.ref S, .ref s.heap.objs.size, .none], []⟩) R { s with heap := h, toks := k } := fun h c1 k st keep at0 => by
    refine codeAny_extend_loopS (Walks.longrange (prog := prog) (w := w) (A := A.in1) calm s.heap.objs.size a 1 n).toS (by rw [sizeLine_eq]; omega) S (fun m => nI (List.mem_singleton.mp m)) .none n 0 _ #[] c1 rfl (Nat.zero_le _) st at0 (ItemsOf.nil _) fun s' acc c' mv at1 items => ?_
    rw [Moved.eq_with mv]
    refine done s'.heap s'.toks acc c' (fun x o hx e => mv.heap x o (fun m => ?_) (keep x o hx e)) at1 items
    rcases List.mem_cons.mp m with z | z
    · exact hx z
    · rw [List.mem_singleton.mp z] at e
      exact Nat.lt_irrefl _ (Heap.lt_size e)
  unfold Builtin.List.listExtendWith
  have f1 : Builtin.List.listSameRef (.ref S) (.ref r) = false := by simp [Builtin.List.listSameRef, ne]
  refine wpAny_bind (wpAny_typeOf (T := "range") ⟨_, hr, rfl⟩ ?_)
  simp only [f1, show (Value.type "range" == Value.type "list") = false by decide, show (Value.type "range" == Value.type "tuple") = false by decide, Bool.or_false, Bool.false_eq_true, if_false]
  refine wpAny_bind (wpAny_pyIter_longrange hr big ?_)
  rw [hn]
  have laid : ∀ {x : Addr} {o : Obj}, s.heap.get? x = some o → (s.heap.push (longO a n)).get? x = some o := fun e => Heap.get?_push_of_some _ e
  refine wpAny_bind (wpAny_holding (wpAny_hint_range (n := n) (laid hr) hn few ?_))
  have st : IsLongIter (s.heap.push (longO a n)) s.heap.objs.size (a + ((0 : Nat) : Int) * 1) ((n : Int) - ((0 : Nat) : Int)) 1 := by
    show (s.heap.push (longO a n)).get? s.heap.objs.size = _
    simpa using Heap.get?_push_size _ rfl
  refine wpAny_ite_split (fun _ => ?_) fun _ => wpAny_pure ⟨plainId_quiet F.plain_extend_loop _, go _ c _ st (fun x o _ e => laid e) (laid hS)⟩
  refine wpAny_bind (wpAny_rule (wpAny_bind ?_))
  show wpAny _ _ (updateSeq S (·.push .none) >>= fun _ => updateSeq S (·.pop)) _ _ _
  have e1 := Heap.get?_update_self (Obj.mapSeq (·.push Value.none)) (laid hS) rfl
  refine wpAny_bind (wpAny_updateSeq (laid hS) rfl (wpAny_updateSeq (hz := by seq_fits) e1 rfl ?_))
  refine wpAny_pure ⟨plainId_quiet F.plain_extend_loop _, go _ _ _ ?_ (fun x o hx e => ?_) (Heap.get?_update_self (Obj.mapSeq (·.pop)) e1 rfl)⟩
  · exact (Heap.get?_update_other _ _ nI).trans ((Heap.get?_update_other _ _ nI).trans st)
  · exact (Heap.get?_update_other _ _ (Ne.symm hx)).trans ((Heap.get?_update_other _ _ (Ne.symm hx)).trans (laid e))
end
section
variable {prog : Program} {w : World} {A : Around} {E : Value → Shared → Prop} {s : Shared} {r : Addr} {a b : Int} {t u v : Tok} {n : Nat}
theorem list_long {Q : Value → Shared → Prop} (calm : A.handled = none) (hr : IsRange s.heap r a b 1 t u v) (big : Builtin.Range.small a b 1 = false) (hn : Builtin.Range.rangeSize a b 1 = n) (few : n ≤ 2 ^ 24)
    (hQ : ∀ h' k acc c', (∀ x o, s.heap.get? x = some o → h'.get? x = some o) → h'.get? s.heap.objs.size = some { cls := .type "list", dict := none, data := .seq acc c', slots := #[] } → ItemsOf (fun i z => ∃ t, z = .int (a + i * 1) t) acc n →
      Q (.ref s.heap.objs.size) { s with heap := h', toks := k }) : wpAny (model prog w) A (call (.type "list") [.ref r]) Q E s := by
  refine callType_codes (Q₁ := fun obj s₁ => obj = .ref s.heap.objs.size ∧ s₁ = { s with heap := s.heap.push { cls := .type "list", data := .seq #[] } }) F.called_list (F.typeCall_list_1 _) F.entry_list_init (code_list_new _ ⟨rfl, rfl⟩) fun obj s₁ ⟨e1, e2⟩ => ?_
  subst e1 e2
  have new : (s.heap.push { cls := .type "list", data := .seq #[] }).get? s.heap.objs.size = some { cls := .type "list", data := .seq #[] } := Heap.get?_push_size _ rfl
  have e2 := Heap.get?_update_self (Obj.mapSeq (fun _ => (#[] : Array Value))) new rfl
  have off : ∀ {x : Addr} {o : Obj}, x ≠ s.heap.objs.size → (s.heap.push { cls := .type "list", data := .seq #[] }).get? x = some o → ((s.heap.push { cls := .type "list", data := .seq #[] }).update s.heap.objs.size (Obj.mapSeq (fun _ => (#[] : Array Value)))).get? x = some o :=
    fun hx e => (Heap.get?_update_other _ _ (Ne.symm hx)).trans e
  have old : ∀ {x : Addr} {o : Obj}, s.heap.get? x = some o → x ≠ s.heap.objs.size := fun e => Nat.ne_of_lt (Heap.lt_size e)
  refine ⟨⟨_, new, rfl⟩, F.args_list_init_2 _ _, ?_⟩
  show wpAny _ _ (do let o ← Builtin.List.listItems (.ref s.heap.objs.size); Builtin.List.listUpdate (.ref s.heap.objs.size) (fun _ => #[]); letGo o.toList.reverse; Builtin.List.listExtendWith (.ref s.heap.objs.size) (.ref r) .none) _ _ _
  refine wpAny_bind ?_
  unfold Builtin.List.listItems
  refine wpAny_bind (wpAny_seqItems new rfl (wpAny_pure ?_))
  show wpAny _ _ (updateSeq s.heap.objs.size (fun _ => #[]) >>= fun _ => letGo (#[] : Array Value).toList.reverse >>= fun _ => Builtin.List.listExtendWith (.ref s.heap.objs.size) (.ref r) .none) _ _ _
  refine wpAny_bind (wpAny_updateSeq new rfl (wpAny_bind (wpAny_letGo ?_)))
  refine fill_long (A := A.in1) calm (off (old hr) (Heap.get?_push_of_some _ hr)) big hn few e2 fun h' k acc c' keep at1 items => ?_
  exact ⟨rfl, hQ h' k acc c' (fun x o e => keep x o (old e) (off (old e) (Heap.get?_push_of_some _ e))) at1 items⟩
end
section
variable {X : Cx}
theorem pe_listRgZ {e : Expr} {te : L2.St → Hp → (Int → Int → Hp → Prop) → Prop} {p pos : Pos} (hc : X.calm = true) (hg : Gl X "list") (hm : X.mg "list" = none) (he : PRg X e te) (na : starEach [e] X.env = (false, eval e X.env) :: starEach [] X.env := by rfl) :
    PE X (.Call (.Name "list" p) [e] [] pos) (fun σ H Q => te σ H fun a b H1 => (b - a).toNat ≤ 2 ^ 24 ∧ ∀ q, H1 q = none → Q (.ref q) (upd H1 q (.lst (rgV a b)))) := by
  refine ⟨fun pins s σ H Q I h => ?_⟩
  refine Call_ (ld_blt I hg hm boot_list (PyProof.Rows.callWith_type1 (args_cons (thn (he pins s σ H _ I h) fun x s1 ⟨r, a, b, t, u, v, H1, ex, hr, I1, ok, q⟩ => args_nil ?_) na) na))
  subst ex
  have fin : ∀ h' k acc c', (∀ x o, s1.heap.get? x = some o → h'.get? x = some o) → h'.get? s1.heap.objs.size = some { cls := .type "list", dict := none, data := .seq acc c', slots := #[] } → ItemsOf (fun i z => ∃ t, z = .int (a + i * 1) t) acc (b - a).toNat →
      EP X pins σ Q (.ref s1.heap.objs.size) { s1 with heap := h', toks := k } := fun h' k acc c' keep at1 items =>
    ⟨.ref s1.heap.objs.size, upd H1 s1.heap.objs.size (.lst (rgV a b)), I1.laid keep (Nat.le_refl _) (show ObjOk X.prog X.w _ _ _ (.lst (rgV a b)) from ⟨by rw [rgV_length, sizeLine_eq]; omega, acc.toList, c', vals_rg items, by rw [Array.toArray_toList]; exact at1⟩), rfl, q _ (I1.hok.fresh (Nat.le_refl _))⟩
  cases sm : Builtin.Range.small a b 1 with
  | true => exact call_list_range (n := (b - a).toNat) (I1.ok.hd hc) hr sm (rangeSize_nat a b) ok fin
  | false => exact list_long (n := (b - a).toNat) (I1.ok.hd hc) hr sm (rangeSize_nat a b) ok fin
def dLRgZ (mu : Bool) (ta tb : AE) : AE := fun E m Q => ta E m fun u m1 => tb E m1 fun w m2 => match u, w with
  | .v (.int a), .v (.int b) => (b - a).toNat ≤ 2 ^ 24 ∧ nw mu (rngD a (b - a).toNat) m2 Q
  | _, _ => False
theorem de_listRgZ (mu : Bool) {p p2 : Pos} {pos2 pos : Pos} {a b : Expr} {f g : AE} (hc : X.calm = true) (hm : X.mg "list" = none) (hm2 : X.mg "range" = none) (ha : DE X a f) (hb : DE X b g) (hg : Gl X "list" := by rfl) (hg2 : Gl X "range" := by rfl)
    (na : starEach [a, b] X.env = (false, eval a X.env) :: starEach [b] X.env := by rfl) (na2 : starEach [b] X.env = (false, eval b X.env) :: starEach [] X.env := by rfl) (hp : (backTo pos2 (starEach [b] X.env)).any (·.1) = false := by rfl) (nb : starEach [.Call (.Name "range" p2) [a, b] [] pos2] X.env = (false, eval (.Call (.Name "range" p2) [a, b] [] pos2) X.env) :: starEach [] X.env := by rfl) :
    DE X (.Call (.Name "list" p) [.Call (.Name "range" p2) [a, b] [] pos2] [] pos) (dLRgZ mu f g) :=
  pe_imp (pe_listRgZ hc hg hm (prg_2 hg2 hm2 ha hb na na2 hp) nb) fun σ H Q ⟨F, ro, E, m, Qa, cm, ce, hf, p⟩ =>
    ⟨F, ro, E, m, _, cm, ce, hf, fun F1 ro1 H1 u v m1 g1 c1 i1 h1 => ⟨F1, ro1, E, m1, _, c1, ce.mono g1, h1, fun F2 ro2 H2 w x m2 g2 c2 i2 h2 => by
      revert h2
      split
      · rename_i n k
        intro h2
        cases i1.mono g2
        cases i2
        exact ⟨_, _, rfl, rfl, h2.1, (p.at (g1.trans g2)).nw c2 mu (rng_is _ _) h2.2⟩
      · exact fun h => h.elim⟩⟩
end
end Z
/-! printed by genp.py: the readings of the program's own defs -/
namespace Z.P
open PySem PySem.Spec PyProof.Rows L2 Z
/-- 0 value, 1 low, 2 high: k01 k02 k03 k04 k05 k06 k07 k08 k09 k10 k11 k12 k13 k14 k15 k16 k17 k18 k19 k20 k21 k22 k23 k24 k25 k26 k27 k28 k29 k30 k31 k32 k33 k34 k35 k36 k37 k38 k39 k40 k41 k42 k43 k44 k45 k46 k47 k48 k49 k51 k52 k53 k54 k55 k56 k57 k58 k59 k60 k61 k66 k67 k68 k69 k70 k71 k72 k73 k74 k75 k76 k77 k78 k79 k80 k81 k82 k83 -/
def g_is_integer : AS :=
  (dRet (dAndV (dIsi "int" (dVar 0)) (dAndV (dNotV (dIsi "bool" (dVar 0))) (dChain (aB fun i j => decide (i ≤ j)) (aB fun i j => decide (i ≤ j)) (dVar 1) (dVar 0) (dVar 2)))))
/-- 0 value, 1 entry, 2 link: k01 k02 k03 k04 k05 k06 k07 k08 k09 k10 k11 k12 k13 k14 k15 k16 k17 k18 k20 k21 k22 k23 k27 k28 k30 k31 k32 k33 k34 k35 k36 k37 k38 k39 k40 k41 k42 k43 k44 k46 k48 k49 k56 k57 k58 k59 k60 k61 k66 k67 k68 k69 k70 k71 k72 k73 k74 k75 k76 k77 k78 k79 k80 k81 k82 -/
def g_have_form (a_is_integer : ASp) : AS :=
  (dSeq (dIfS (dOr (dNot (dB (dIsi "list" (dVar 0)))) (dNot (dB (dChain (aB fun i j => decide (i ≤ j)) (aB fun i j => decide (i ≤ j)) (dC (.int 1)) (dCB aLen (dCons (dVar 0) dNil)) (dC (.int 150)))))) (dRet (dC (.bool false))) dNext)
  (dRet (dCB aAll (dCons (dLc (sEnum (dCons (dVar 0) dNil)) (gT 2 (gN1 (gN 1) (gN1 (gN 2) gN0))) dYes (dCall a_is_integer (dCons (dVar 2) (dCons (dC (.int 0)) (dCons (dCB aMax (dCons (dC (.int 0)) (dCons (dOp aSub (dVar 1) (dC (.int 1))) dNil))) dNil)))) [1, 2]) dNil))))
def b1_least_crossing : AS :=
  (dIfS (dB (dChain (aB fun i j => decide (i < j)) (aB fun i j => decide (i < j)) (dVar 2) (dOp aIx (dVar 0) (dVar 3)) (dVar 1))) (dRet (dTup (dCons (dVar 1) (dCons (dVar 3) dNil)))) dNext)
def b2_least_crossing : AS :=
  (dFor (sRng2 (dCons (dOp (aAdd false) (dVar 1) (dC (.int 1))) (dCons (dCB aLen (dCons (dVar 0) dNil)) dNil))) (gN 3)
  (b1_least_crossing))
/-- 0 links, 1 entry, 2 link, 3 other: k01 k02 k03 k04 k05 k06 k07 k08 k09 k10 k11 k12 k13 k14 k15 k16 k17 k18 k20 k21 k22 k23 k27 k28 k30 k31 k32 k33 k34 k35 k36 k37 k38 k39 k40 k41 k42 k43 k44 k46 k48 k49 k56 k57 k58 k59 k60 k61 k66 k67 k68 k69 k70 k71 k72 k73 k74 k75 k76 k77 k78 k79 k80 k81 k82 -/
def g_least_crossing : AS :=
  (dSeq (dFor (sEnum (dCons (dVar 0) dNil)) (gT 2 (gN1 (gN 1) (gN1 (gN 2) gN0)))
  (b2_least_crossing))
  (dRet (dC .none)))
/-- 0 value: k01 k03 k04 k05 k06 k07 k08 k09 k10 k11 k12 k13 k14 k15 k16 k17 k18 k20 k21 k22 k23 k27 k28 k30 k31 k32 k33 k34 k35 k36 k37 k38 k39 k40 k41 k42 k43 k44 k46 k48 k49 k56 k57 k58 k59 k60 k61 k66 k67 k68 k69 k70 k71 k72 k73 k74 k75 k76 k77 k78 k79 k80 k81 k82 -/
def g_is_log (a_have_form a_least_crossing : ASp) : AS :=
  (dRet (dAndV (dCall a_have_form (dCons (dVar 0) dNil)) (dIsN (dCall a_least_crossing (dCons (dVar 0) dNil)))))
/-- 0 script, 1 k, 2 cell: k01 k02 k03 k04 k05 k06 k07 k08 k09 k10 k11 k12 k13 k14 k15 k16 k17 k18 k24 k25 k26 k27 k28 k29 k30 k31 -/
def g_law_vat : AS :=
  (dSeq (dAsg 2 (dIf (dB (dOp (aB fun i j => decide (i < j)) (dVar 1) (dCB aLen (dCons (dVar 0) dNil)))) (dOp aIx (dVar 0) (dVar 1)) (dC (.int 0))))
  (dRet (dLstM (dCons (dCB aMax (dCons (dC (.int 0)) (dCons (dOp aSub (dCB aAbs (dCons (dVar 2) dNil)) (dOp aPow (dC (.int 10)) (dC (.int 18)))) dNil))) (dCons (dOp (aAdd false) (dOp (aAdd false) (dOp (aMul false) (dOp aMod (dVar 2) (dOp (aAdd false) (dOp aPow (dC (.int 10)) (dC (.int 40))) (dC (.int 121)))) (dC (.int 31))) (dOp (aMul false) (dC (.int 25013)) (dVar 1))) (dC (.int 9))) (dCons (dC (.int 0)) dNil))))))
/-- 0 vat, 1 many, 2 found, 3 drop: k01 k02 k03 k04 k05 k06 k07 k08 k09 k10 k11 k12 k13 k14 k15 k16 k17 k18 k24 k25 k26 k27 k28 k29 k30 k31 -/
def g_law_drip : AS :=
  (dSeq (dIfS (dB (dOp (aB fun i j => decide (j < i)) (dOp aIx (dVar 0) (dC (.int 0))) (dC (.int 0)))) (dSeq (dAsg 2 (dOp aMod (dOp aIx (dVar 0) (dC (.int 0))) (dVar 1)))
  (dSeq (dSetIx (dOp aDiv (dOp aIx (dVar 0) (dC (.int 0))) (dVar 1)) (dVar 0) (dC (.int 0)))
  (dRet (dVar 2)))) dNext)
  (dSeq (dSetIx (dOp (aAdd false) (dOp aIx (dVar 0) (dC (.int 2))) (dC (.int 1))) (dVar 0) (dC (.int 2)))
  (dSeq (dAsg 3 (dOp aMod (dOp aPow (dOp (aAdd false) (dOp aIx (dVar 0) (dC (.int 1))) (dOp (aMul false) (dC (.int 2654435761)) (dOp aIx (dVar 0) (dC (.int 2))))) (dC (.int 3))) (dOp (aAdd false) (dOp aPow (dC (.int 10)) (dC (.int 43))) (dC (.int 57)))))
  (dSeq (dAsg 3 (dOp aMod (dOp aPow (dOp (aAdd false) (dVar 3) (dOp (aMul false) (dC (.int 1500450271)) (dOp aIx (dVar 0) (dC (.int 2))))) (dC (.int 3))) (dOp (aAdd false) (dOp aPow (dC (.int 10)) (dC (.int 42))) (dC (.int 63)))))
  (dRet (dOp aMod (dOp aDiv (dVar 3) (dC (.int 1000253))) (dVar 1)))))))
def b1_law_log (a_law_drip : ASp) : AS :=
  (dSeq (dAsg 6 (dOp aSub (dCB aLen (dCons (dVar 3) dNil)) (dC (.int 1))))
  (dSeq (dAsg 7 (dLst (dCons (dCall a_law_drip (dCons (dVar 0) (dCons (dOp (aAdd false) (dVar 6) (dC (.int 1))) dNil))) (dCons (dVar 6) (dCons (dC (.int 0)) (dCons (dCB aMax (dCons (dC (.int 0)) (dCons (dOp aSub (dVar 6) (dCall a_law_drip (dCons (dVar 0) (dCons (dC (.int 3)) dNil)))) dNil))) dNil))))))
  (dSeq (dAsg 7 (dOp (aAdd false) (dVar 7) (dLst (dCons (dOp (aMul false) (dVar 6) (dCall a_law_drip (dCons (dVar 0) (dCons (dC (.int 2)) dNil)))) (dCons (dOp aDiv (dVar 6) (dC (.int 2))) dNil)))))
  (dSeq (dAsg 8 (dIf (dB (dOp (aB fun i j => decide (j < i)) (dCall a_law_drip (dCons (dVar 0) (dCons (dC (.int 6)) dNil))) (dC (.int 0)))) (dOp aIx (dVar 7) (dVar 4)) (dCall a_law_drip (dCons (dVar 0) (dCons (dOp (aAdd false) (dVar 6) (dC (.int 1))) dNil)))))
  (dSeq (dExpr (dMeth aAppend (dVar 2) (dCons (dOp aIx (dVar 3) (dVar 8)) dNil)))
  (dAsg 3 (dOp (aAdd false) (dSl false (dVar 3) dNoPart (dPart (dOp (aAdd false) (dVar 8) (dC (.int 1))))) (dLst (dCons (dVar 5) dNil)))))))))
/-- 0 vat, 1 size, 2 found, 3 allowed, 4 way, 5 entry, 6 most, 7 spots, 8 spot: k01 k04 k05 k06 k08 k10 k11 k12 k13 k14 k15 k16 k17 k18 k24 k25 k26 k27 k28 k29 k30 k31 -/
def g_law_log (a_law_drip : ASp) : AS :=
  (dSeq (dPar3 2 3 4 (dCons (dLstM (dCons (dC (.int 0)) dNil)) (dCons (dLst (dCons (dC (.int 0)) dNil)) (dCons (dCall a_law_drip (dCons (dVar 0) (dCons (dC (.int 6)) dNil))) dNil))))
  (dSeq (dFor (sRng2 (dCons (dC (.int 1)) (dCons (dVar 1) dNil))) (gN 5)
  (b1_law_log a_law_drip))
  (dRet (dFrz (dVar 2)))))
def b1_law_log_2 (a_law_take : ASp) : AS :=
  (dSeq (dPar2 6 7 (dCons (dCall a_law_take (dCons (dVar 0) (dCons (dCB aLen (dCons (dVar 3) dNil)) dNil))) (dCons (dCB aMax (dCons (dC (.int 0)) (dCons (dOp aSub (dOp aSub (dCB aLen (dCons (dVar 3) dNil)) (dC (.int 1))) (dCall a_law_take (dCons (dVar 0) (dCons (dC (.int 3)) dNil)))) dNil))) dNil)))
  (dSeq (dAsg 8 (dOp aIx (dLst (dCons (dOp aSub (dCB aLen (dCons (dVar 3) dNil)) (dC (.int 1))) (dCons (dC (.int 0)) (dCons (dVar 6) (dCons (dVar 7) (dCons (dCB aMax (dCons (dC (.int 0)) (dCons (dOp aSub (dCB aLen (dCons (dVar 3) dNil)) (dC (.int 2))) dNil))) dNil)))))) (dVar 4)))
  (dSeq (dIfS (dB (dOp (aEq) (dCall a_law_take (dCons (dVar 0) (dCons (dC (.int 6)) dNil))) (dC (.int 0)))) (dAsg 8 (dVar 6)) dNext)
  (dSeq (dExpr (dMeth aAppend (dVar 2) (dCons (dOp aIx (dVar 3) (dVar 8)) dNil)))
  (dAsg 3 (dOp (aAdd false) (dSl false (dVar 3) dNoPart (dPart (dOp (aAdd false) (dVar 8) (dC (.int 1))))) (dLst (dCons (dVar 5) dNil))))))))
/-- 0 pot, 1 size, 2 found, 3 seen, 4 style, 5 entry, 6 any_one, 7 near, 8 at: k32 k33 k34 k35 k36 k37 k38 k39 k40 k41 k42 k43 k45 k47 k48 k49 -/
def g_law_log_2 (a_law_take : ASp) : AS :=
  (dSeq (dPar3 2 3 4 (dCons (dLstM (dCons (dC (.int 0)) dNil)) (dCons (dLst (dCons (dC (.int 0)) dNil)) (dCons (dCall a_law_take (dCons (dVar 0) (dCons (dC (.int 5)) dNil))) dNil))))
  (dSeq (dFor (sRng2 (dCons (dC (.int 1)) (dCons (dVar 1) dNil))) (gN 5)
  (b1_law_log_2 a_law_take))
  (dRet (dFrz (dVar 2)))))
def t1_law_log_3 (a_law_take a_law_allowed a_law_pick : ASp) : AT :=
  (dB (dOp (aB fun i j => decide (i < j)) (dCB aLen (dCons (dVar 2) dNil)) (dVar 1)))
def b1_law_log_3 (a_law_take a_law_allowed a_law_pick : ASp) : AS :=
  (dSeq (dAsg 4 (dCall a_law_allowed (dCons (dVar 2) dNil)))
  (dSeq (dAsg 5 (dLst (dCons (dOp aIx (dVar 4) (dUn aNeg (dC (.int 1)))) (dCons (dOp aIx (dVar 4) (dC (.int 0))) (dCons (dCall a_law_pick (dCons (dVar 0) (dCons (dVar 4) dNil))) (dCons (dOp aIx (dVar 4) (dCB aMax (dCons (dC (.int 0)) (dCons (dOp aSub (dCB aLen (dCons (dVar 4) dNil)) (dC (.int 2))) dNil)))) (dCons (dCall a_law_pick (dCons (dVar 0) (dCons (dSl false (dVar 4) (dPart (dUn aNeg (dC (.int 3)))) dNoPart) dNil))) dNil)))))))
  (dExpr (dMeth aAppend (dVar 2) (dCons (dOp aIx (dLst (dCons (dOp aIx (dVar 5) (dVar 3)) (dCons (dCall a_law_pick (dCons (dVar 0) (dCons (dVar 4) dNil))) dNil))) (dCB aInt (dCons (dOp (aEq) (dCall a_law_take (dCons (dVar 0) (dCons (dC (.int 5)) dNil))) (dC (.int 0))) dNil))) dNil)))))
/-- 0 bag, 1 size, 2 links, 3 style, 4 able, 5 some: k58 k60 k61 k73 k74 k75 k76 k77 -/
def g_law_log_3 (a_law_take a_law_allowed a_law_pick : ASp) : AS :=
  (dSeq (dPar2 2 3 (dCons (dLstM (dCons (dC (.int 0)) dNil)) (dCons (dCall a_law_take (dCons (dVar 0) (dCons (dC (.int 5)) dNil))) dNil)))
  (dSeq (dWhile (t1_law_log_3 a_law_take a_law_allowed a_law_pick) (b1_law_log_3 a_law_take a_law_allowed a_law_pick))
  (dRet (dFrz (dVar 2)))))
def b1_law_log_4 (a_law_drip : ASp) : AS :=
  (dSeq (dAsg 6 (dOp aSub (dCB aLen (dCons (dVar 3) dNil)) (dC (.int 1))))
  (dSeq (dAsg 7 (dLst (dCons (dCall a_law_drip (dCons (dVar 0) (dCons (dOp (aAdd false) (dVar 6) (dC (.int 1))) dNil))) (dCons (dVar 6) (dCons (dC (.int 0)) (dCons (dCB aMax (dCons (dC (.int 0)) (dCons (dOp aSub (dVar 6) (dCall a_law_drip (dCons (dVar 0) (dCons (dC (.int 3)) dNil)))) dNil))) dNil))))))
  (dSeq (dAsg 7 (dOp (aAdd false) (dVar 7) (dLst (dCons (dOp (aMul false) (dVar 6) (dCall a_law_drip (dCons (dVar 0) (dCons (dC (.int 2)) dNil)))) (dCons (dOp aDiv (dVar 6) (dC (.int 2))) dNil)))))
  (dSeq (dAsg 8 (dIf (dB (dOp (aB fun i j => decide (j < i)) (dCall a_law_drip (dCons (dVar 0) (dCons (dC (.int 6)) dNil))) (dC (.int 0)))) (dOp aIx (dVar 7) (dVar 4)) (dCall a_law_drip (dCons (dVar 0) (dCons (dOp (aAdd false) (dVar 6) (dC (.int 1))) dNil)))))
  (dSeq (dExpr (dMeth aAppend (dVar 2) (dCons (dOp aIx (dVar 3) (dVar 8)) dNil)))
  (dAsg 3 (dOp (aAdd false) (dSl false (dVar 3) dNoPart (dPart (dOp (aAdd false) (dVar 8) (dC (.int 1))))) (dLst (dCons (dVar 5) dNil)))))))))
/-- 0 vat, 1 size, 2 found, 3 allowed, 4 way, 5 entry, 6 most, 7 spots, 8 spot: k02 k03 k07 k09 -/
def g_law_log_4 (a_law_drip : ASp) : AS :=
  (dSeq (dPar3 2 3 4 (dCons (dLstM (dCons (dC (.int 0)) dNil)) (dCons (dLst (dCons (dC (.int 0)) dNil)) (dCons (dCall a_law_drip (dCons (dVar 0) (dCons (dC (.int 6)) dNil))) dNil))))
  (dSeq (dFor (sRng2 (dCons (dC (.int 1)) (dCons (dVar 1) dNil))) (gN 5)
  (b1_law_log_4 a_law_drip))
  (dRet (dVar 2))))
def b1_law_log_5 (a_law_take : ASp) : AS :=
  (dSeq (dPar2 6 7 (dCons (dCall a_law_take (dCons (dVar 0) (dCons (dCB aLen (dCons (dVar 3) dNil)) dNil))) (dCons (dCB aMax (dCons (dC (.int 0)) (dCons (dOp aSub (dOp aSub (dCB aLen (dCons (dVar 3) dNil)) (dC (.int 1))) (dCall a_law_take (dCons (dVar 0) (dCons (dC (.int 3)) dNil)))) dNil))) dNil)))
  (dSeq (dAsg 8 (dOp aIx (dLst (dCons (dOp aSub (dCB aLen (dCons (dVar 3) dNil)) (dC (.int 1))) (dCons (dC (.int 0)) (dCons (dVar 6) (dCons (dVar 7) (dCons (dCB aMax (dCons (dC (.int 0)) (dCons (dOp aSub (dCB aLen (dCons (dVar 3) dNil)) (dC (.int 2))) dNil))) dNil)))))) (dVar 4)))
  (dSeq (dIfS (dB (dOp (aEq) (dCall a_law_take (dCons (dVar 0) (dCons (dC (.int 6)) dNil))) (dC (.int 0)))) (dAsg 8 (dVar 6)) dNext)
  (dSeq (dExpr (dMeth aAppend (dVar 2) (dCons (dOp aIx (dVar 3) (dVar 8)) dNil)))
  (dAsg 3 (dOp (aAdd false) (dSl false (dVar 3) dNoPart (dPart (dOp (aAdd false) (dVar 8) (dC (.int 1))))) (dLst (dCons (dVar 5) dNil))))))))
/-- 0 pot, 1 size, 2 found, 3 seen, 4 style, 5 entry, 6 any_one, 7 near, 8 at: k44 k46 -/
def g_law_log_5 (a_law_take : ASp) : AS :=
  (dSeq (dPar3 2 3 4 (dCons (dLstM (dCons (dC (.int 0)) dNil)) (dCons (dLst (dCons (dC (.int 0)) dNil)) (dCons (dCall a_law_take (dCons (dVar 0) (dCons (dC (.int 5)) dNil))) dNil))))
  (dSeq (dFor (sRng2 (dCons (dC (.int 1)) (dCons (dVar 1) dNil))) (gN 5)
  (b1_law_log_5 a_law_take))
  (dRet (dVar 2))))
def t1_law_log_6 (a_law_take a_law_allowed a_law_pick : ASp) : AT :=
  (dB (dOp (aB fun i j => decide (i < j)) (dCB aLen (dCons (dVar 2) dNil)) (dVar 1)))
def b1_law_log_6 (a_law_take a_law_allowed a_law_pick : ASp) : AS :=
  (dSeq (dAsg 4 (dCall a_law_allowed (dCons (dVar 2) dNil)))
  (dSeq (dAsg 5 (dLst (dCons (dOp aIx (dVar 4) (dUn aNeg (dC (.int 1)))) (dCons (dOp aIx (dVar 4) (dC (.int 0))) (dCons (dCall a_law_pick (dCons (dVar 0) (dCons (dVar 4) dNil))) (dCons (dOp aIx (dVar 4) (dCB aMax (dCons (dC (.int 0)) (dCons (dOp aSub (dCB aLen (dCons (dVar 4) dNil)) (dC (.int 2))) dNil)))) (dCons (dCall a_law_pick (dCons (dVar 0) (dCons (dSl false (dVar 4) (dPart (dUn aNeg (dC (.int 3)))) dNoPart) dNil))) dNil)))))))
  (dExpr (dMeth aAppend (dVar 2) (dCons (dOp aIx (dLst (dCons (dOp aIx (dVar 5) (dVar 3)) (dCons (dCall a_law_pick (dCons (dVar 0) (dCons (dVar 4) dNil))) dNil))) (dCB aInt (dCons (dOp (aEq) (dCall a_law_take (dCons (dVar 0) (dCons (dC (.int 5)) dNil))) (dC (.int 0))) dNil))) dNil)))))
/-- 0 bag, 1 size, 2 links, 3 style, 4 able, 5 some: k57 k59 -/
def g_law_log_6 (a_law_take a_law_allowed a_law_pick : ASp) : AS :=
  (dSeq (dPar2 2 3 (dCons (dLstM (dCons (dC (.int 0)) dNil)) (dCons (dCall a_law_take (dCons (dVar 0) (dCons (dC (.int 5)) dNil))) dNil)))
  (dSeq (dWhile (t1_law_log_6 a_law_take a_law_allowed a_law_pick) (b1_law_log_6 a_law_take a_law_allowed a_law_pick))
  (dRet (dVar 2))))
def b1_law_crossing : AS :=
  (dIfS (dB (dChain (aB fun i j => decide (i < j)) (aB fun i j => decide (i < j)) (dOp aIx (dVar 0) (dVar 1)) (dOp aIx (dVar 0) (dVar 2)) (dVar 1))) (dRet (dTup (dCons (dVar 1) (dCons (dVar 2) dNil)))) dNext)
def b2_law_crossing : AS :=
  (dFor (sRng2 (dCons (dOp (aAdd false) (dVar 1) (dC (.int 1))) (dCons (dCB aLen (dCons (dVar 0) dNil)) dNil))) (gN 2)
  (b1_law_crossing))
/-- 0 links, 1 entry, 2 other: k01 k02 k03 k04 -/
def g_law_crossing : AS :=
  (dSeq (dFor (sRng2 (dCons (dC (.int 1)) (dCons (dCB aLen (dCons (dVar 0) dNil)) dNil))) (gN 1)
  (b2_law_crossing))
  (dRet (dC .none)))
/-- 0 some: k01 k04 k06 k12 k17 k30 -/
def g_law_odd : AS :=
  (dSeq (dAsg 0 (dLst (dCons (dC .none) (dCons (dC (.int 0)) (dCons (dC (.bool true)) (dCons (dC (.str "")) (dCons (dC (.str "0 0")) (dCons (dTup dNil) (dCons (dTup (dCons (dC (.int 0)) dNil)) (dCons (dC (.dict [])) (dCons (dLst dNil) (dCons (dLst (dCons (dC (.int 1)) dNil)) (dCons (dLst (dCons (dUn aNeg (dC (.int 1))) dNil)) (dCons (dLst (dCons (dC (.bool true)) dNil)) (dCons (dLst (dCons (dC (.bool false)) dNil)) (dCons (dLst (dCons (dC .none) dNil)) (dCons (dLst (dCons (dC (.str "0")) dNil)) (dCons (dLst (dCons (dLst (dCons (dC (.int 0)) dNil)) dNil)) (dCons (dLst (dCons (dTup (dCons (dC (.int 0)) dNil)) dNil)) dNil)))))))))))))))))))
  (dSeq (dAsg 0 (dOp (aAdd false) (dVar 0) (dLst (dCons (dLst (dCons (dC (.int 0)) (dCons (dC (.int 1)) dNil))) (dCons (dLst (dCons (dC (.int 0)) (dCons (dUn aNeg (dC (.int 1))) dNil))) (dCons (dLst (dCons (dC (.int 0)) (dCons (dC (.int 0)) (dCons (dC (.int 2)) dNil)))) (dCons (dLst (dCons (dC (.int 0)) (dCons (dC (.bool true)) dNil))) (dCons (dLst (dCons (dC (.int 0)) (dCons (dC (.bool false)) dNil))) (dCons (dLst (dCons (dC (.int 0)) (dCons (dC (.int 0)) (dCons (dC (.int 0)) (dCons (dC (.int 1)) dNil))))) (dCons (dLst (dCons (dC (.int 0)) (dCons (dC .none) dNil))) (dCons (dLst (dCons (dC (.int 0)) (dCons (dC (.str "0")) dNil))) (dCons (dC (.dict [(.int 0, .int 0)])) dNil))))))))))))
  (dRet (dOp (aAdd false) (dVar 0) (dLst (dCons (dOp (aMul false) (dLst (dCons (dC (.int 0)) dNil)) (dC (.int 151))) (dCons (dLst (dCons (dC (.int 0)) (dCons (dC (.int 0)) (dCons (dC (.int 0)) (dCons (dC (.int 3)) dNil))))) (dCons (dTup (dCons (dC (.int 0)) (dCons (dC (.int 0)) dNil))) (dCons (dLst (dCons (dLst (dCons (dC (.int 0)) (dCons (dC (.int 0)) dNil))) dNil)) (dCons (dLst (dCons (dC (.int 0)) (dCons (dLst (dCons (dC (.int 0)) dNil)) dNil))) (dCons (dLst (dCons (dC (.int 0)) (dCons (dC (.int 0)) (dCons (dC (.bool true)) dNil)))) dNil)))))))))))
/-- 0 reel, 1 some: k22 k55 k67 k68 k70 -/
def g_law_odd_2 (a_law_turn : ASp) : AS :=
  (dSeq (dAsg 1 (dLst (dCons (dC .none) (dCons (dC (.bool true)) (dCons (dC (.bool false)) (dCons (dUn aNeg (dC (.int 1))) (dCons (dC (.int 151)) (dCons (dOp aPow (dC (.int 10)) (dC (.int 60))) (dCons (dC (.str "")) (dCons (dC (.str "0")) (dCons (dC (.str "a")) (dCons (dC (.str "0 1 9")) (dCons (dC (.str "-1")) (dCons (dC (.str "0 ")) (dCons (dTup dNil) (dCons (dC (.dict [])) (dCons (dLst dNil) (dCons (dLst (dCons (dC .none) dNil)) (dCons (dLst (dCons (dC (.bool true)) dNil)) (dCons (dLst (dCons (dC (.int 1)) dNil)) dNil))))))))))))))))))))
  (dSeq (dAsg 1 (dOp (aAdd false) (dVar 1) (dLst (dCons (dLst (dCons (dC (.int 0)) (dCons (dC (.bool true)) dNil))) (dCons (dLst (dCons (dC (.int 0)) (dCons (dUn aNeg (dC (.int 1))) dNil))) (dCons (dLst (dCons (dC (.int 0)) (dCons (dC (.int 1)) dNil))) (dCons (dLst (dCons (dC (.str "0")) dNil)) (dCons (dLst (dCons (dC (.int 0)) (dCons (dC (.int 0)) (dCons (dC (.int 0)) (dCons (dC (.int 1)) dNil))))) (dCons (dTup (dCons (dC (.int 0)) dNil)) (dCons (dLst (dCons (dC (.int 0)) (dCons (dLst (dCons (dC (.int 0)) dNil)) dNil))) (dCons (dLst (dCons (dC (.int 0)) (dCons (dC .none) dNil))) (dCons (dC (.dict [(.str "0", .int 0)])) (dCons (dLst (dCons (dLst (dCons (dC (.int 0)) dNil)) dNil)) dNil)))))))))))))
  (dSeq (dAsg 1 (dOp (aAdd false) (dVar 1) (dLst (dCons (dOp (aMul false) (dLst (dCons (dC (.int 0)) dNil)) (dC (.int 151))) (dCons (dLst (dCons (dC (.int 0)) (dCons (dC (.int 0)) (dCons (dC (.str "1")) dNil)))) (dCons (dLst (dCons (dC (.bool false)) dNil)) (dCons (dC (.str "0 0 1")) (dCons (dC (.str "00")) (dCons (dC (.str ">")) (dCons (dC (.str "-0")) (dCons (dC (.str "+1")) (dCons (dC (.dict [(.int 0, .int 0)])) (dCons (dLst (dCons (dC (.int 0)) (dCons (dC (.int 0)) (dCons (dC (.int 2)) (dCons (dC (.int 1)) dNil))))) dNil)))))))))))))
  (dRet (dOp aIx (dVar 1) (dCall a_law_turn (dCons (dVar 0) (dCons (dCB aLen (dCons (dVar 1) dNil)) dNil))))))))
/-- 0 value: k02 k04 k05 -/
def g_crossing_in (a_have_form a_least_crossing : ASp) : AS :=
  (dSeq (dIfS (dNot (dB (dCall a_have_form (dCons (dVar 0) dNil)))) dNever dNext)
  (dRet (dCall a_least_crossing (dCons (dVar 0) dNil))))
/-- 0 value: k02 k04 k05 -/
def x_crossing_in (a_have_form a_least_crossing : ASp) : XS :=
  fun Xa =>
  (dSeq (dIfS (dNot (dB (dCall a_have_form (dCons (dVar 0) dNil)))) (xRaise "InvalidLog" Xa) dNext)
  (dRet (dCall a_least_crossing (dCons (dVar 0) dNil))))
/-- 0 value: k03 k04 k05 k06 k07 k08 k09 k10 k11 k12 k13 k14 k15 k16 k17 k18 k20 k21 k22 k23 k27 k28 k30 k31 k32 k33 k34 k35 k36 k37 k38 k39 k40 k41 k42 k43 k44 k46 k48 k49 k56 k57 k58 k59 k61 k66 k67 k68 k69 k70 k71 k72 k73 k74 k75 k76 k77 k78 k79 k80 k81 k82 -/
def g_need_log (a_is_log : ASp) : AS :=
  (dIfS (dNot (dB (dCall a_is_log (dCons (dVar 0) dNil)))) dNever dNext)
/-- 0 value: k03 k04 k05 k06 k07 k08 k09 k10 k11 k12 k13 k14 k15 k16 k17 k18 k20 k21 k22 k23 k27 k28 k30 k31 k32 k33 k34 k35 k36 k37 k38 k39 k40 k41 k42 k43 k44 k46 k48 k49 k56 k57 k58 k59 k61 k66 k67 k68 k69 k70 k71 k72 k73 k74 k75 k76 k77 k78 k79 k80 k81 k82 -/
def x_need_log (a_is_log : ASp) : XS :=
  fun Xa =>
  (dIfS (dNot (dB (dCall a_is_log (dCons (dVar 0) dNil)))) (xRaise "InvalidLog" Xa) dNext)
def b1_targets_of : AS :=
  (dAsg 1 (dOp (aAdd false) (dLc (sList (dVar 1)) (gN 4) (dB (dOp (aB fun i j => decide (i ≤ j)) (dVar 4) (dVar 3))) (dVar 4) [4]) (dLst (dCons (dOp (aAdd false) (dVar 2) (dC (.int 1))) dNil))))
/-- 0 links, 1 found, 2 entry, 3 link, 4 target: k04 k05 k23 k37 k41 k42 k43 k57 k59 k61 k69 k70 k71 k72 k75 k78 k81 -/
def g_targets_of : AS :=
  (dSeq (dAsg 1 (dLst (dCons (dC (.int 0)) dNil)))
  (dSeq (dFor (sEnum (dCons (dSl false (dVar 0) (dPart (dC (.int 1))) dNoPart) dNil)) (gT 2 (gN1 (gN 2) (gN1 (gN 3) gN0)))
  (b1_targets_of))
  (dRet (dVar 1))))
def b1_targets_of_2 : AS :=
  (dAsg 1 (dOp (aAdd true) (dLc (sList (dVar 1)) (gN 4) (dB (dOp (aB fun i j => decide (i ≤ j)) (dVar 4) (dVar 3))) (dVar 4) [4]) (dLst (dCons (dOp (aAdd false) (dVar 2) (dC (.int 1))) dNil))))
/-- 0 links, 1 found, 2 entry, 3 link, 4 target: k03 -/
def g_targets_of_2 : AS :=
  (dSeq (dAsg 1 (dLstM (dCons (dC (.int 0)) dNil)))
  (dSeq (dFor (sEnum (dCons (dSl false (dVar 0) (dPart (dC (.int 1))) dNoPart) dNil)) (gT 2 (gN1 (gN 2) (gN1 (gN 3) gN0)))
  (b1_targets_of_2))
  (dRet (dVar 1))))
/-- 0 links: k03 k04 k05 k23 k57 k59 k61 k69 k70 k71 k72 k81 -/
def g_allowed_targets (a_need_log a_targets_of : ASp) : AS :=
  (dSeq (dExpr (dCall a_need_log (dCons (dVar 0) dNil)))
  (dRet (dCall a_targets_of (dCons (dVar 0) dNil))))
/-- 0 links: k03 k04 k05 k23 k57 k59 k61 k69 k70 k71 k72 k81 -/
def x_allowed_targets (a_targets_of : ASp) (ax_need_log : AXp) : XS :=
  fun Xa =>
  (dSeq (dExpr (rCall ax_need_log (dCons (dVar 0) dNil) Xa))
  (dRet (dCall a_targets_of (dCons (dVar 0) dNil))))
/-- 0 e, 1 some, 2 others, 3 names, 4 name, 5 so: k04 k12 k17 k30 -/
def g_law_kind : AS :=
  (dSeq (dAsg 1 (dLst (dCons (dTup (dCons (dC (.str "InvalidLog")) (dCons (dIsx ["InvalidLog", "InvalidEntry", "InvalidTarget", "InvalidChain", "InvalidNumber", "InvalidSize", "InvalidKnown", "InvalidPrices", "InvalidBase", "InvalidTag", "InvalidText", "InvalidCommand", "Different", "NothingToUndo"] "InvalidLog" (dVar 0)) dNil))) (dCons (dTup (dCons (dC (.str "InvalidEntry")) (dCons (dIsx ["InvalidLog", "InvalidEntry", "InvalidTarget", "InvalidChain", "InvalidNumber", "InvalidSize", "InvalidKnown", "InvalidPrices", "InvalidBase", "InvalidTag", "InvalidText", "InvalidCommand", "Different", "NothingToUndo"] "InvalidEntry" (dVar 0)) dNil))) dNil))))
  (dSeq (dAsg 1 (dOp (aAdd false) (dVar 1) (dLst (dCons (dTup (dCons (dC (.str "InvalidChain")) (dCons (dIsx ["InvalidLog", "InvalidEntry", "InvalidTarget", "InvalidChain", "InvalidNumber", "InvalidSize", "InvalidKnown", "InvalidPrices", "InvalidBase", "InvalidTag", "InvalidText", "InvalidCommand", "Different", "NothingToUndo"] "InvalidChain" (dVar 0)) dNil))) (dCons (dTup (dCons (dC (.str "InvalidNumber")) (dCons (dIsx ["InvalidLog", "InvalidEntry", "InvalidTarget", "InvalidChain", "InvalidNumber", "InvalidSize", "InvalidKnown", "InvalidPrices", "InvalidBase", "InvalidTag", "InvalidText", "InvalidCommand", "Different", "NothingToUndo"] "InvalidNumber" (dVar 0)) dNil))) dNil)))))
  (dSeq (dAsg 1 (dOp (aAdd false) (dVar 1) (dLst (dCons (dTup (dCons (dC (.str "InvalidSize")) (dCons (dIsx ["InvalidLog", "InvalidEntry", "InvalidTarget", "InvalidChain", "InvalidNumber", "InvalidSize", "InvalidKnown", "InvalidPrices", "InvalidBase", "InvalidTag", "InvalidText", "InvalidCommand", "Different", "NothingToUndo"] "InvalidSize" (dVar 0)) dNil))) (dCons (dTup (dCons (dC (.str "InvalidKnown")) (dCons (dIsx ["InvalidLog", "InvalidEntry", "InvalidTarget", "InvalidChain", "InvalidNumber", "InvalidSize", "InvalidKnown", "InvalidPrices", "InvalidBase", "InvalidTag", "InvalidText", "InvalidCommand", "Different", "NothingToUndo"] "InvalidKnown" (dVar 0)) dNil))) dNil)))))
  (dSeq (dAsg 1 (dOp (aAdd false) (dVar 1) (dLst (dCons (dTup (dCons (dC (.str "Crossing")) (dCons (dIsx ["InvalidLog", "InvalidEntry", "InvalidTarget", "InvalidChain", "InvalidNumber", "InvalidSize", "InvalidKnown", "InvalidPrices", "InvalidBase", "InvalidTag", "InvalidText", "InvalidCommand", "Different", "NothingToUndo"] "Crossing" (dVar 0)) dNil))) (dCons (dTup (dCons (dC (.str "Different")) (dCons (dIsx ["InvalidLog", "InvalidEntry", "InvalidTarget", "InvalidChain", "InvalidNumber", "InvalidSize", "InvalidKnown", "InvalidPrices", "InvalidBase", "InvalidTag", "InvalidText", "InvalidCommand", "Different", "NothingToUndo"] "Different" (dVar 0)) dNil))) dNil)))))
  (dSeq (dAsg 2 (dIsxT ["InvalidLog", "InvalidEntry", "InvalidTarget", "InvalidChain", "InvalidNumber", "InvalidSize", "InvalidKnown", "InvalidPrices", "InvalidBase", "InvalidTag", "InvalidText", "InvalidCommand", "Different", "NothingToUndo"] ["InvalidBase", "InvalidChange", "InvalidCommand", "InvalidPrices", "InvalidTag", "InvalidTarget"] (dVar 0)))
  (dSeq (dAsg 2 (dOrV (dVar 2) (dIsxT ["InvalidLog", "InvalidEntry", "InvalidTarget", "InvalidChain", "InvalidNumber", "InvalidSize", "InvalidKnown", "InvalidPrices", "InvalidBase", "InvalidTag", "InvalidText", "InvalidCommand", "Different", "NothingToUndo"] ["InvalidText", "NothingToUndo"] (dVar 0))))
  (dSeq (dAsg 3 (dLc (sList (dVar 1)) (gT 2 (gN1 (gN 4) (gN1 (gN 5) gN0))) (dB (dVar 5)) (dVar 4) [4, 5]))
  (dRet (dIf (dAnd (dB (dOp (aEq) (dCB aLen (dCons (dVar 3) dNil)) (dC (.int 1)))) (dAnd (dNot (dB (dVar 2))) (dB (dIsx ["InvalidLog", "InvalidEntry", "InvalidTarget", "InvalidChain", "InvalidNumber", "InvalidSize", "InvalidKnown", "InvalidPrices", "InvalidBase", "InvalidTag", "InvalidText", "InvalidCommand", "Different", "NothingToUndo"] "ValueError" (dVar 0))))) (dOp aIx (dVar 3) (dC (.int 0))) (dC (.str "odd")))))))))))
/-- 0 e, 1 some, 2 words, 3 word, 4 so: k36 k42 k48 -/
def g_law_kind_2 : AS :=
  (dSeq (dAsg 1 (dLst (dCons (dTup (dCons (dC (.str "InvalidLog")) (dCons (dIsx ["InvalidLog", "InvalidEntry", "InvalidTarget", "InvalidChain", "InvalidNumber", "InvalidSize", "InvalidKnown", "InvalidPrices", "InvalidBase", "InvalidTag", "InvalidText", "InvalidCommand", "Different", "NothingToUndo"] "InvalidLog" (dVar 0)) dNil))) (dCons (dTup (dCons (dC (.str "Different")) (dCons (dIsx ["InvalidLog", "InvalidEntry", "InvalidTarget", "InvalidChain", "InvalidNumber", "InvalidSize", "InvalidKnown", "InvalidPrices", "InvalidBase", "InvalidTag", "InvalidText", "InvalidCommand", "Different", "NothingToUndo"] "Different" (dVar 0)) dNil))) dNil))))
  (dSeq (dAsg 1 (dOp (aAdd false) (dVar 1) (dLst (dCons (dTup (dCons (dC (.str "InvalidSize")) (dCons (dIsx ["InvalidLog", "InvalidEntry", "InvalidTarget", "InvalidChain", "InvalidNumber", "InvalidSize", "InvalidKnown", "InvalidPrices", "InvalidBase", "InvalidTag", "InvalidText", "InvalidCommand", "Different", "NothingToUndo"] "InvalidSize" (dVar 0)) dNil))) (dCons (dTup (dCons (dC (.str "InvalidPrices")) (dCons (dIsx ["InvalidLog", "InvalidEntry", "InvalidTarget", "InvalidChain", "InvalidNumber", "InvalidSize", "InvalidKnown", "InvalidPrices", "InvalidBase", "InvalidTag", "InvalidText", "InvalidCommand", "Different", "NothingToUndo"] "InvalidPrices" (dVar 0)) dNil))) dNil)))))
  (dSeq (dAsg 1 (dOp (aAdd false) (dVar 1) (dLst (dCons (dTup (dCons (dC (.str "InvalidChange")) (dCons (dIsx ["InvalidLog", "InvalidEntry", "InvalidTarget", "InvalidChain", "InvalidNumber", "InvalidSize", "InvalidKnown", "InvalidPrices", "InvalidBase", "InvalidTag", "InvalidText", "InvalidCommand", "Different", "NothingToUndo"] "InvalidChange" (dVar 0)) dNil))) dNil))))
  (dSeq (dAsg 1 (dOp (aAdd false) (dVar 1) (dLst (dCons (dTup (dCons (dC (.str "odd")) (dCons (dIsxT ["InvalidLog", "InvalidEntry", "InvalidTarget", "InvalidChain", "InvalidNumber", "InvalidSize", "InvalidKnown", "InvalidPrices", "InvalidBase", "InvalidTag", "InvalidText", "InvalidCommand", "Different", "NothingToUndo"] ["Crossing", "InvalidBase", "InvalidChain", "InvalidCommand"] (dVar 0)) dNil))) dNil))))
  (dSeq (dAsg 1 (dOp (aAdd false) (dVar 1) (dLst (dCons (dTup (dCons (dC (.str "odd")) (dCons (dIsxT ["InvalidLog", "InvalidEntry", "InvalidTarget", "InvalidChain", "InvalidNumber", "InvalidSize", "InvalidKnown", "InvalidPrices", "InvalidBase", "InvalidTag", "InvalidText", "InvalidCommand", "Different", "NothingToUndo"] ["InvalidEntry", "InvalidKnown", "InvalidNumber", "InvalidTag"] (dVar 0)) dNil))) dNil))))
  (dSeq (dAsg 1 (dOp (aAdd false) (dVar 1) (dLst (dCons (dTup (dCons (dC (.str "odd")) (dCons (dIsxT ["InvalidLog", "InvalidEntry", "InvalidTarget", "InvalidChain", "InvalidNumber", "InvalidSize", "InvalidKnown", "InvalidPrices", "InvalidBase", "InvalidTag", "InvalidText", "InvalidCommand", "Different", "NothingToUndo"] ["InvalidTarget", "InvalidText", "NothingToUndo"] (dVar 0)) dNil))) dNil))))
  (dSeq (dAsg 2 (dLc (sList (dVar 1)) (gT 2 (gN1 (gN 3) (gN1 (gN 4) gN0))) (dB (dVar 4)) (dVar 3) [3, 4]))
  (dRet (dIf (dAnd (dB (dOp (aEq) (dCB aLen (dCons (dVar 2) dNil)) (dC (.int 1)))) (dB (dIsx ["InvalidLog", "InvalidEntry", "InvalidTarget", "InvalidChain", "InvalidNumber", "InvalidSize", "InvalidKnown", "InvalidPrices", "InvalidBase", "InvalidTag", "InvalidText", "InvalidCommand", "Different", "NothingToUndo"] "ValueError" (dVar 0)))) (dOp aIx (dVar 2) (dC (.int 0))) (dC (.str "odd")))))))))))
/-- 0 links, 1 value, 2 entry, 3 later: k06 k09 k11 k12 k13 k14 k17 k18 k66 k68 k72 k73 k79 k80 -/
def g_is_chain_of (a_is_integer : ASp) : AS :=
  (dSeq (dIfS (dOr (dNot (dB (dIsi "list" (dVar 1)))) (dB (dOp (aEq) (dVar 1) (dLst dNil)))) (dRet (dC (.bool false))) dNext)
  (dSeq (dIfS (dNot (dB (dCB aAll (dCons (dLc (sList (dVar 1)) (gN 2) dYes (dCall a_is_integer (dCons (dVar 2) (dCons (dC (.int 0)) (dCons (dOp aSub (dCB aLen (dCons (dVar 0) dNil)) (dC (.int 1))) dNil)))) [2]) dNil)))) (dRet (dC (.bool false))) dNext)
  (dRet (dCB aAll (dCons (dLc (sZip (dCons (dVar 1) (dCons (dSl false (dVar 1) (dPart (dC (.int 1))) dNoPart) dNil))) (gT 2 (gN1 (gN 2) (gN1 (gN 3) gN0))) dYes (dAndV (dOp (aIn false) (dVar 3) (dTup (dCons (dOp aSub (dVar 2) (dC (.int 1))) (dCons (dOp aIx (dVar 0) (dVar 2)) dNil)))) (dOp (aB fun i j => decide (i < j)) (dVar 3) (dVar 2))) [2, 3]) dNil)))))
/-- 0 links, 1 value: k06 k11 k12 k13 k72 k73 k79 -/
def g_is_chain (a_need_log a_is_chain_of : ASp) : AS :=
  (dSeq (dExpr (dCall a_need_log (dCons (dVar 0) dNil)))
  (dRet (dCall a_is_chain_of (dCons (dVar 0) (dCons (dVar 1) dNil)))))
/-- 0 links, 1 value: k06 k11 k12 k13 k72 k73 k79 -/
def x_is_chain (a_is_chain_of : ASp) (ax_need_log : AXp) : XS :=
  fun Xa =>
  (dSeq (dExpr (rCall ax_need_log (dCons (dVar 0) dNil) Xa))
  (dRet (dCall a_is_chain_of (dCons (dVar 0) (dCons (dVar 1) dNil)))))
/-- 0 vat, 1 size, 2 start: k06 k07 k08 k09 k10 k11 k12 k13 k14 k15 k16 k17 k18 k29 k30 k31 -/
def g_law_range (a_law_drip : ASp) : AS :=
  (dSeq (dAsg 2 (dOp aIx (dLst (dCons (dOp aSub (dVar 1) (dC (.int 1))) (dCons (dCall a_law_drip (dCons (dVar 0) (dCons (dVar 1) dNil))) dNil))) (dCall a_law_drip (dCons (dVar 0) (dCons (dC (.int 2)) dNil)))))
  (dRet (dTup (dCons (dVar 2) (dCons (dOp aIx (dLst (dCons (dC (.int 0)) (dCons (dCall a_law_drip (dCons (dVar 0) (dCons (dOp (aAdd false) (dVar 2) (dC (.int 1))) dNil))) (dCons (dCB aMax (dCons (dC (.int 0)) (dCons (dOp aSub (dVar 2) (dC (.int 1))) dNil))) dNil)))) (dCall a_law_drip (dCons (dVar 0) (dCons (dC (.int 3)) dNil)))) dNil)))))
/-- 0 reel, 1 base, 2 one, 3 other, 4 style: k51 k52 k53 k54 k55 k56 -/
def g_law_range_2 (a_law_place a_law_turn : ASp) : AS :=
  (dSeq (dPar2 2 3 (dCons (dCall a_law_place (dCons (dVar 0) (dCons (dVar 1) dNil))) (dCons (dCall a_law_place (dCons (dVar 0) (dCons (dVar 1) dNil))) dNil)))
  (dSeq (dAsg 4 (dCall a_law_turn (dCons (dVar 0) (dCons (dC (.int 5)) dNil))))
  (dSeq (dAsg 3 (dOp aIx (dLst (dCons (dVar 3) (dCons (dVar 3) (dCons (dC (.int 0)) (dCons (dCB aMax (dCons (dC (.int 0)) (dCons (dOp aSub (dVar 2) (dCall a_law_turn (dCons (dVar 0) (dCons (dC (.int 100)) dNil)))) dNil))) (dCons (dOp aMod (dVar 3) (dOp (aAdd false) (dVar 2) (dC (.int 1)))) dNil)))))) (dVar 4)))
  (dRet (dTup (dCons (dCB aMax (dCons (dVar 2) (dCons (dVar 3) dNil))) (dCons (dCB aMin (dCons (dVar 2) (dCons (dVar 3) dNil))) dNil)))))))
def t1_law_down (a_law_drip : ASp) : AT :=
  (dB (dOp (aB fun i j => decide (j < i)) (dOp aIx (dVar 4) (dUn aNeg (dC (.int 1)))) (dVar 3)))
def b1_law_down (a_law_drip : ASp) : AS :=
  (dSeq (dAsg 6 (dOp aIx (dVar 1) (dOp aIx (dVar 4) (dUn aNeg (dC (.int 1))))))
  (dSeq (dAsg 7 (dOp aIx (dLst (dCons (dCall a_law_drip (dCons (dVar 0) (dCons (dC (.int 2)) dNil))) (dCons (dOp aDiv (dCall a_law_drip (dCons (dVar 0) (dCons (dC (.int 6)) dNil))) (dC (.int 5))) (dCons (dCB aInt (dCons (dOp (aB fun i j => decide (j < i)) (dCall a_law_drip (dCons (dVar 0) (dCons (dC (.int 6)) dNil))) (dC (.int 0))) dNil)) dNil)))) (dVar 5)))
  (dExpr (dMeth aAppend (dVar 4) (dCons (dIf (dAnd (dB (dOp (aEq) (dVar 7) (dC (.int 1)))) (dB (dOp (aB fun i j => decide (j ≤ i)) (dVar 6) (dVar 3)))) (dVar 6) (dOp aSub (dOp aIx (dVar 4) (dUn aNeg (dC (.int 1)))) (dC (.int 1)))) dNil)))))
/-- 0 vat, 1 links, 2 start, 3 end, 4 found, 5 way, 6 link, 7 by_link: k06 k07 k08 k09 k10 k11 k12 k13 k14 k15 k16 k17 k18 k29 k30 k31 -/
def g_law_down (a_law_drip : ASp) : AS :=
  (dSeq (dPar2 4 5 (dCons (dLstM (dCons (dVar 2) dNil)) (dCons (dCall a_law_drip (dCons (dVar 0) (dCons (dC (.int 3)) dNil))) dNil)))
  (dSeq (dWhile (t1_law_down a_law_drip) (b1_law_down a_law_drip))
  (dRet (dFrz (dVar 4)))))
/-- 0 links, 1 entry: k07 k08 k09 k10 k11 k12 k13 k15 k16 k17 k18 k31 k56 k58 k59 k61 k69 k70 k71 k72 k73 k77 k78 k79 k80 -/
def g_need_entry (a_is_integer : ASp) : AS :=
  (dIfS (dNot (dB (dCall a_is_integer (dCons (dVar 1) (dCons (dC (.int 0)) (dCons (dOp aSub (dCB aLen (dCons (dVar 0) dNil)) (dC (.int 1))) dNil)))))) dNever dNext)
/-- 0 links, 1 entry: k07 k08 k09 k10 k11 k12 k13 k15 k16 k17 k18 k31 k56 k58 k59 k61 k69 k70 k71 k72 k73 k77 k78 k79 k80 -/
def x_need_entry (a_is_integer : ASp) : XS :=
  fun Xa =>
  (dIfS (dNot (dB (dCall a_is_integer (dCons (dVar 1) (dCons (dC (.int 0)) (dCons (dOp aSub (dCB aLen (dCons (dVar 0) dNil)) (dC (.int 1))) dNil)))))) (xRaise "InvalidEntry" Xa) dNext)
/-- 0 links, 1 start, 2 end: k07 k08 k09 k10 k11 k12 k13 k15 k16 k17 k18 k31 k56 k58 k59 k61 k69 k70 k71 k72 k73 k77 k78 k79 k80 -/
def g_need_range (a_need_entry a_is_integer : ASp) : AS :=
  (dSeq (dExpr (dCall a_need_entry (dCons (dVar 0) (dCons (dVar 1) dNil))))
  (dIfS (dNot (dB (dCall a_is_integer (dCons (dVar 2) (dCons (dC (.int 0)) (dCons (dVar 1) dNil)))))) dNever dNext))
/-- 0 links, 1 start, 2 end: k07 k08 k09 k10 k11 k12 k13 k15 k16 k17 k18 k31 k56 k58 k59 k61 k69 k70 k71 k72 k73 k77 k78 k79 k80 -/
def x_need_range (a_is_integer : ASp) (ax_need_entry : AXp) : XS :=
  fun Xa =>
  (dSeq (dExpr (rCall ax_need_entry (dCons (dVar 0) (dCons (dVar 1) dNil)) Xa))
  (dIfS (dNot (dB (dCall a_is_integer (dCons (dVar 2) (dCons (dC (.int 0)) (dCons (dVar 1) dNil)))))) (xRaise "InvalidEntry" Xa) dNext))
def t1_greedy_chain : AT :=
  (dB (dOp (aB fun i j => decide (j < i)) (dOp aIx (dVar 3) (dUn aNeg (dC (.int 1)))) (dVar 2)))
def b1_greedy_chain : AS :=
  (dSeq (dAsg 4 (dOp aIx (dVar 0) (dOp aIx (dVar 3) (dUn aNeg (dC (.int 1))))))
  (dExpr (dMeth aAppend (dVar 3) (dCons (dIf (dB (dOp (aB fun i j => decide (j ≤ i)) (dVar 4) (dVar 2))) (dVar 4) (dOp aSub (dOp aIx (dVar 3) (dUn aNeg (dC (.int 1)))) (dC (.int 1)))) dNil))))
/-- 0 links, 1 start, 2 end, 3 found, 4 link: k12 k13 k15 k16 k17 k18 k31 k44 k46 k48 k49 k56 k58 k59 k61 k69 k70 k71 k72 k73 k76 k77 k78 k79 k80 -/
def g_greedy_chain : AS :=
  (dSeq (dAsg 3 (dLstM (dCons (dVar 1) dNil)))
  (dSeq (dWhile (t1_greedy_chain) (b1_greedy_chain))
  (dRet (dFrz (dVar 3)))))
def t1_greedy_chain_2 : AT :=
  (dB (dOp (aB fun i j => decide (j < i)) (dOp aIx (dVar 3) (dUn aNeg (dC (.int 1)))) (dVar 2)))
def b1_greedy_chain_2 : AS :=
  (dSeq (dAsg 4 (dOp aIx (dVar 0) (dOp aIx (dVar 3) (dUn aNeg (dC (.int 1))))))
  (dExpr (dMeth aAppend (dVar 3) (dCons (dIf (dB (dOp (aB fun i j => decide (j ≤ i)) (dVar 4) (dVar 2))) (dVar 4) (dOp aSub (dOp aIx (dVar 3) (dUn aNeg (dC (.int 1)))) (dC (.int 1)))) dNil))))
/-- 0 links, 1 start, 2 end, 3 found, 4 link: k07 k08 -/
def g_greedy_chain_2 : AS :=
  (dSeq (dAsg 3 (dLstM (dCons (dVar 1) dNil)))
  (dSeq (dWhile (t1_greedy_chain_2) (b1_greedy_chain_2))
  (dRet (dVar 3))))
/-- 0 links, 1 start, 2 end: k07 k12 k13 k18 k31 k56 k58 k59 k61 k69 k70 k71 k72 k73 k77 k78 k79 k80 -/
def g_shortest_chain (a_need_log a_need_range a_greedy_chain : ASp) : AS :=
  (dSeq (dExpr (dCall a_need_log (dCons (dVar 0) dNil)))
  (dSeq (dExpr (dCall a_need_range (dCons (dVar 0) (dCons (dVar 1) (dCons (dVar 2) dNil)))))
  (dRet (dCall a_greedy_chain (dCons (dVar 0) (dCons (dVar 1) (dCons (dVar 2) dNil)))))))
/-- 0 links, 1 start, 2 end: k07 k12 k13 k18 k31 k56 k58 k59 k61 k69 k70 k71 k72 k73 k77 k78 k79 k80 -/
def x_shortest_chain (a_greedy_chain : ASp) (ax_need_log ax_need_range : AXp) : XS :=
  fun Xa =>
  (dSeq (dExpr (rCall ax_need_log (dCons (dVar 0) dNil) Xa))
  (dSeq (dExpr (rCall ax_need_range (dCons (dVar 0) (dCons (dVar 1) (dCons (dVar 2) dNil))) Xa))
  (dRet (dCall a_greedy_chain (dCons (dVar 0) (dCons (dVar 1) (dCons (dVar 2) dNil)))))))
/-- 0 links, 1 entry, 2 end, 3 later: k07 k08 k09 k10 k11 k15 k16 k29 -/
def g_law_next : AS :=
  (dRet (dLc (sList (dSortSet false (dLst (dCons (dOp aIx (dVar 0) (dVar 1)) (dCons (dOp aSub (dVar 1) (dC (.int 1))) dNil))))) (gN 3) (dB (dChain (aB fun i j => decide (i ≤ j)) (aB fun i j => decide (i < j)) (dVar 2) (dVar 3) (dVar 1))) (dVar 3) [3]))
def b1_law_lengths (a_law_next : ASp) : AS :=
  (dPut (dCB aMin (dCons (dGet2 (dVar 4) (dVar 6) (dOp aPow (dC (.int 10)) (dC (.int 6)))) (dCons (dOp (aAdd false) (dGet (dVar 4) (dVar 5)) (dC (.int 1))) dNil))) (dVar 4) (dVar 6))
def b2_law_lengths (a_law_next : ASp) : AS :=
  (dIfS (dAnd (dB (dIn false (dVar 5) (dVar 4))) (dB (dOp (aNe) (dVar 5) (dVar 3)))) (dFor (sList (dCall a_law_next (dCons (dVar 0) (dCons (dVar 5) (dCons (dVar 2) dNil))))) (gN 6)
  (b1_law_lengths a_law_next)) dNext)
/-- 0 links, 1 start, 2 end, 3 without, 4 found, 5 entry, 6 later: k07 k08 k09 k10 k11 k15 k16 k29 -/
def g_law_lengths (a_law_next : ASp) : AS :=
  (dSeq (dAsg 4 (dDctM1 (dVar 1) (dC (.int 0))))
  (dSeq (dFor (sRngD (dCons (dVar 1) (dCons (dVar 2) (dCons (dUn aNeg (dC (.int 1))) dNil)))) (gN 5)
  (b2_law_lengths a_law_next))
  (dRet (dFrz (dVar 4)))))
/-- 0 links, 1 start, 2 end, 3 entry: k12 k13 k31 k73 k80 -/
def g_lies_on_every (a_need_log a_need_range a_need_entry a_greedy_chain : ASp) : AS :=
  (dSeq (dExpr (dCall a_need_log (dCons (dVar 0) dNil)))
  (dSeq (dExpr (dCall a_need_range (dCons (dVar 0) (dCons (dVar 1) (dCons (dVar 2) dNil)))))
  (dSeq (dExpr (dCall a_need_entry (dCons (dVar 0) (dCons (dVar 3) dNil))))
  (dRet (dOp (aIn false) (dVar 3) (dCall a_greedy_chain (dCons (dVar 0) (dCons (dVar 1) (dCons (dVar 2) dNil)))))))))
/-- 0 links, 1 start, 2 end, 3 entry: k08 -/
def g_lies_on_every_2 (a_need_log a_need_range a_need_entry a_greedy_chain : ASp) : AS :=
  (dSeq (dExpr (dCall a_need_log (dCons (dVar 0) dNil)))
  (dSeq (dExpr (dCall a_need_range (dCons (dVar 0) (dCons (dVar 1) (dCons (dVar 2) dNil)))))
  (dSeq (dExpr (dCall a_need_entry (dCons (dVar 0) (dCons (dVar 3) dNil))))
  (dRet (dOp (aIn false) (dVar 3) (dFrz (dCall a_greedy_chain (dCons (dVar 0) (dCons (dVar 1) (dCons (dVar 2) dNil))))))))))
/-- 0 links, 1 start, 2 end, 3 entry: k12 k13 k31 k73 k80 -/
def x_lies_on_every (a_greedy_chain : ASp) (ax_need_log ax_need_range ax_need_entry : AXp) : XS :=
  fun Xa =>
  (dSeq (dExpr (rCall ax_need_log (dCons (dVar 0) dNil) Xa))
  (dSeq (dExpr (rCall ax_need_range (dCons (dVar 0) (dCons (dVar 1) (dCons (dVar 2) dNil))) Xa))
  (dSeq (dExpr (rCall ax_need_entry (dCons (dVar 0) (dCons (dVar 3) dNil)) Xa))
  (dRet (dOp (aIn false) (dVar 3) (dCall a_greedy_chain (dCons (dVar 0) (dCons (dVar 1) (dCons (dVar 2) dNil)))))))))
/-- 0 links, 1 start, 2 end, 3 entry: k08 -/
def x_lies_on_every_2 (a_greedy_chain : ASp) (ax_need_log ax_need_range ax_need_entry : AXp) : XS :=
  fun Xa =>
  (dSeq (dExpr (rCall ax_need_log (dCons (dVar 0) dNil) Xa))
  (dSeq (dExpr (rCall ax_need_range (dCons (dVar 0) (dCons (dVar 1) (dCons (dVar 2) dNil))) Xa))
  (dSeq (dExpr (rCall ax_need_entry (dCons (dVar 0) (dCons (dVar 3) dNil)) Xa))
  (dRet (dOp (aIn false) (dVar 3) (dFrz (dCall a_greedy_chain (dCons (dVar 0) (dCons (dVar 1) (dCons (dVar 2) dNil))))))))))
/-- 0 links, 1 start, 2 end, 3 entry, 4 chain: k08 k12 k13 k73 k80 -/
def g_avoiding_chain (a_need_log a_need_range a_need_entry a_greedy_chain : ASp) : AS :=
  (dSeq (dExpr (dCall a_need_log (dCons (dVar 0) dNil)))
  (dSeq (dExpr (dCall a_need_range (dCons (dVar 0) (dCons (dVar 1) (dCons (dVar 2) dNil)))))
  (dSeq (dExpr (dCall a_need_entry (dCons (dVar 0) (dCons (dVar 3) dNil))))
  (dSeq (dAsg 4 (dCall a_greedy_chain (dCons (dVar 0) (dCons (dVar 1) (dCons (dVar 2) dNil)))))
  (dRet (dIf (dB (dOp (aIn false) (dVar 3) (dVar 4))) (dC .none) (dVar 4)))))))
/-- 0 links, 1 start, 2 end, 3 entry, 4 chain: k08 k12 k13 k73 k80 -/
def x_avoiding_chain (a_greedy_chain : ASp) (ax_need_log ax_need_range ax_need_entry : AXp) : XS :=
  fun Xa =>
  (dSeq (dExpr (rCall ax_need_log (dCons (dVar 0) dNil) Xa))
  (dSeq (dExpr (rCall ax_need_range (dCons (dVar 0) (dCons (dVar 1) (dCons (dVar 2) dNil))) Xa))
  (dSeq (dExpr (rCall ax_need_entry (dCons (dVar 0) (dCons (dVar 3) dNil)) Xa))
  (dSeq (dAsg 4 (dCall a_greedy_chain (dCons (dVar 0) (dCons (dVar 1) (dCons (dVar 2) dNil)))))
  (dRet (dIf (dB (dOp (aIn false) (dVar 3) (dVar 4))) (dC .none) (dVar 4)))))))
/-- 0 links, 1 value: k09 k11 k12 k14 k17 k18 k66 k68 k72 k73 k79 k80 -/
def g_need_chain (a_is_chain_of : ASp) : AS :=
  (dIfS (dNot (dB (dCall a_is_chain_of (dCons (dVar 0) (dCons (dVar 1) dNil))))) dNever dNext)
/-- 0 links, 1 value: k09 k11 k12 k14 k17 k18 k66 k68 k72 k73 k79 k80 -/
def x_need_chain (a_is_chain_of : ASp) : XS :=
  fun Xa =>
  (dIfS (dNot (dB (dCall a_is_chain_of (dCons (dVar 0) (dCons (dVar 1) dNil))))) (xRaise "InvalidChain" Xa) dNext)
/-- 0 links, 1 entry, 2 end, 3 later: k09 k10 k11 k12 k13 k69 k70 k71 k72 k73 k78 k79 k80 -/
def g_next_entries : AS :=
  (dRet (dSortSc false (sTup (dTup (dCons (dOp aIx (dVar 0) (dVar 1)) (dCons (dOp aSub (dVar 1) (dC (.int 1))) dNil)))) (gN 3) (dB (dOp (aB fun i j => decide (j ≤ i)) (dVar 3) (dVar 2))) (dVar 3) [3]))
def b1_numbers_to (a_next_entries : ASp) : AS :=
  (dPut (dCB aSum (dCons (dLc (sList (dCall a_next_entries (dCons (dVar 0) (dCons (dVar 4) (dCons (dVar 2) dNil))))) (gN 5) dYes (dGet (dVar 3) (dVar 5)) [5]) dNil)) (dVar 3) (dVar 4))
/-- 0 links, 1 start, 2 end, 3 found, 4 entry, 5 later: k09 k11 k12 k13 k69 k70 k71 k72 k73 k78 k79 k80 -/
def g_numbers_to (a_next_entries : ASp) : AS :=
  (dSeq (dAsg 3 (dDctM1 (dVar 2) (dC (.int 1))))
  (dSeq (dFor (sRng2 (dCons (dOp (aAdd false) (dVar 2) (dC (.int 1))) (dCons (dOp (aAdd false) (dVar 1) (dC (.int 1))) dNil))) (gN 4)
  (b1_numbers_to a_next_entries))
  (dRet (dFrz (dVar 3)))))
/-- 0 links, 1 start, 2 end: k09 k11 k12 k13 k69 k70 k71 k72 k73 k78 k79 k80 -/
def g_count_chains (a_need_log a_need_range a_numbers_to : ASp) : AS :=
  (dSeq (dExpr (dCall a_need_log (dCons (dVar 0) dNil)))
  (dSeq (dExpr (dCall a_need_range (dCons (dVar 0) (dCons (dVar 1) (dCons (dVar 2) dNil)))))
  (dRet (dGet (dCall a_numbers_to (dCons (dVar 0) (dCons (dVar 1) (dCons (dVar 2) dNil)))) (dVar 1)))))
/-- 0 links, 1 start, 2 end: k09 k11 k12 k13 k69 k70 k71 k72 k73 k78 k79 k80 -/
def x_count_chains (a_numbers_to : ASp) (ax_need_log ax_need_range : AXp) : XS :=
  fun Xa =>
  (dSeq (dExpr (rCall ax_need_log (dCons (dVar 0) dNil) Xa))
  (dSeq (dExpr (rCall ax_need_range (dCons (dVar 0) (dCons (dVar 1) (dCons (dVar 2) dNil))) Xa))
  (dRet (dGet (dCall a_numbers_to (dCons (dVar 0) (dCons (dVar 1) (dCons (dVar 2) dNil)))) (dVar 1)))))
def t1_nth_chain (a_need_log a_need_range a_numbers_to a_is_integer a_next_entries : ASp) : AT :=
  (dB (dOp (aB fun i j => decide (j < i)) (dOp aIx (dVar 5) (dUn aNeg (dC (.int 1)))) (dVar 2)))
def b1_nth_chain (a_need_log a_need_range a_numbers_to a_is_integer a_next_entries : ASp) : AS :=
  (dSeq (dAsg 6 (dOp aIx (dCall a_next_entries (dCons (dVar 0) (dCons (dOp aIx (dVar 5) (dUn aNeg (dC (.int 1)))) (dCons (dVar 2) dNil)))) (dC (.int 0))))
  (dIfS (dB (dOp (aB fun i j => decide (i < j)) (dVar 3) (dGet (dVar 4) (dVar 6)))) (dExpr (dMeth aAppend (dVar 5) (dCons (dVar 6) dNil))) (dSeq (dAug 3 (aI fun i j => i - j) (dGet (dVar 4) (dVar 6)))
  (dExpr (dMeth aAppend (dVar 5) (dCons (dOp aSub (dOp aIx (dVar 5) (dUn aNeg (dC (.int 1)))) (dC (.int 1))) dNil))))))
/-- 0 links, 1 start, 2 end, 3 number, 4 numbers, 5 found, 6 least: k11 k12 k73 k78 k79 k80 -/
def g_nth_chain (a_need_log a_need_range a_numbers_to a_is_integer a_next_entries : ASp) : AS :=
  (dSeq (dExpr (dCall a_need_log (dCons (dVar 0) dNil)))
  (dSeq (dExpr (dCall a_need_range (dCons (dVar 0) (dCons (dVar 1) (dCons (dVar 2) dNil)))))
  (dSeq (dAsg 4 (dCall a_numbers_to (dCons (dVar 0) (dCons (dVar 1) (dCons (dVar 2) dNil)))))
  (dSeq (dIfS (dNot (dB (dCall a_is_integer (dCons (dVar 3) (dCons (dC (.int 0)) (dCons (dOp aSub (dGet (dVar 4) (dVar 1)) (dC (.int 1))) dNil)))))) dNever dNext)
  (dSeq (dAsg 5 (dLstM (dCons (dVar 1) dNil)))
  (dSeq (dWhile (t1_nth_chain a_need_log a_need_range a_numbers_to a_is_integer a_next_entries) (b1_nth_chain a_need_log a_need_range a_numbers_to a_is_integer a_next_entries))
  (dRet (dFrz (dVar 5)))))))))
def t1_nth_chain_2 (a_need_log a_need_range a_numbers_to a_is_integer a_next_entries : ASp) : AT :=
  (dB (dOp (aB fun i j => decide (j < i)) (dOp aIx (dVar 5) (dUn aNeg (dC (.int 1)))) (dVar 2)))
def b1_nth_chain_2 (a_need_log a_need_range a_numbers_to a_is_integer a_next_entries : ASp) : AS :=
  (dSeq (dAsg 6 (dOp aIx (dCall a_next_entries (dCons (dVar 0) (dCons (dOp aIx (dVar 5) (dUn aNeg (dC (.int 1)))) (dCons (dVar 2) dNil)))) (dC (.int 0))))
  (dIfS (dB (dOp (aB fun i j => decide (i < j)) (dVar 3) (dGet (dVar 4) (dVar 6)))) (dExpr (dMeth aAppend (dVar 5) (dCons (dVar 6) dNil))) (dSeq (dAug 3 (aI fun i j => i - j) (dGet (dVar 4) (dVar 6)))
  (dExpr (dMeth aAppend (dVar 5) (dCons (dOp aSub (dOp aIx (dVar 5) (dUn aNeg (dC (.int 1)))) (dC (.int 1))) dNil))))))
/-- 0 links, 1 start, 2 end, 3 number, 4 numbers, 5 found, 6 least: k09 -/
def g_nth_chain_2 (a_need_log a_need_range a_numbers_to a_is_integer a_next_entries : ASp) : AS :=
  (dSeq (dExpr (dCall a_need_log (dCons (dVar 0) dNil)))
  (dSeq (dExpr (dCall a_need_range (dCons (dVar 0) (dCons (dVar 1) (dCons (dVar 2) dNil)))))
  (dSeq (dAsg 4 (dCall a_numbers_to (dCons (dVar 0) (dCons (dVar 1) (dCons (dVar 2) dNil)))))
  (dSeq (dIfS (dNot (dB (dCall a_is_integer (dCons (dVar 3) (dCons (dC (.int 0)) (dCons (dOp aSub (dGet (dVar 4) (dVar 1)) (dC (.int 1))) dNil)))))) dNever dNext)
  (dSeq (dAsg 5 (dLstM (dCons (dVar 1) dNil)))
  (dSeq (dWhile (t1_nth_chain_2 a_need_log a_need_range a_numbers_to a_is_integer a_next_entries) (b1_nth_chain_2 a_need_log a_need_range a_numbers_to a_is_integer a_next_entries))
  (dRet (dVar 5))))))))
def t1_x_nth_chain (a_numbers_to a_is_integer a_next_entries : ASp) (ax_need_log ax_need_range : AXp) : AT :=
  (dB (dOp (aB fun i j => decide (j < i)) (dOp aIx (dVar 5) (dUn aNeg (dC (.int 1)))) (dVar 2)))
def b1_x_nth_chain (a_numbers_to a_is_integer a_next_entries : ASp) (ax_need_log ax_need_range : AXp) : AS :=
  (dSeq (dAsg 6 (dOp aIx (dCall a_next_entries (dCons (dVar 0) (dCons (dOp aIx (dVar 5) (dUn aNeg (dC (.int 1)))) (dCons (dVar 2) dNil)))) (dC (.int 0))))
  (dIfS (dB (dOp (aB fun i j => decide (i < j)) (dVar 3) (dGet (dVar 4) (dVar 6)))) (dExpr (dMeth aAppend (dVar 5) (dCons (dVar 6) dNil))) (dSeq (dAug 3 (aI fun i j => i - j) (dGet (dVar 4) (dVar 6)))
  (dExpr (dMeth aAppend (dVar 5) (dCons (dOp aSub (dOp aIx (dVar 5) (dUn aNeg (dC (.int 1)))) (dC (.int 1))) dNil))))))
/-- 0 links, 1 start, 2 end, 3 number, 4 numbers, 5 found, 6 least: k11 k12 k73 k78 k79 k80 -/
def x_nth_chain (a_numbers_to a_is_integer a_next_entries : ASp) (ax_need_log ax_need_range : AXp) : XS :=
  fun Xa =>
  (dSeq (dExpr (rCall ax_need_log (dCons (dVar 0) dNil) Xa))
  (dSeq (dExpr (rCall ax_need_range (dCons (dVar 0) (dCons (dVar 1) (dCons (dVar 2) dNil))) Xa))
  (dSeq (dAsg 4 (dCall a_numbers_to (dCons (dVar 0) (dCons (dVar 1) (dCons (dVar 2) dNil)))))
  (dSeq (dIfS (dNot (dB (dCall a_is_integer (dCons (dVar 3) (dCons (dC (.int 0)) (dCons (dOp aSub (dGet (dVar 4) (dVar 1)) (dC (.int 1))) dNil)))))) (xRaise "InvalidNumber" Xa) dNext)
  (dSeq (dAsg 5 (dLstM (dCons (dVar 1) dNil)))
  (dSeq (dWhile (t1_x_nth_chain a_numbers_to a_is_integer a_next_entries ax_need_log ax_need_range) (b1_x_nth_chain a_numbers_to a_is_integer a_next_entries ax_need_log ax_need_range))
  (dRet (dFrz (dVar 5)))))))))
def t1_x_nth_chain_2 (a_numbers_to a_is_integer a_next_entries : ASp) (ax_need_log ax_need_range : AXp) : AT :=
  (dB (dOp (aB fun i j => decide (j < i)) (dOp aIx (dVar 5) (dUn aNeg (dC (.int 1)))) (dVar 2)))
def b1_x_nth_chain_2 (a_numbers_to a_is_integer a_next_entries : ASp) (ax_need_log ax_need_range : AXp) : AS :=
  (dSeq (dAsg 6 (dOp aIx (dCall a_next_entries (dCons (dVar 0) (dCons (dOp aIx (dVar 5) (dUn aNeg (dC (.int 1)))) (dCons (dVar 2) dNil)))) (dC (.int 0))))
  (dIfS (dB (dOp (aB fun i j => decide (i < j)) (dVar 3) (dGet (dVar 4) (dVar 6)))) (dExpr (dMeth aAppend (dVar 5) (dCons (dVar 6) dNil))) (dSeq (dAug 3 (aI fun i j => i - j) (dGet (dVar 4) (dVar 6)))
  (dExpr (dMeth aAppend (dVar 5) (dCons (dOp aSub (dOp aIx (dVar 5) (dUn aNeg (dC (.int 1)))) (dC (.int 1))) dNil))))))
/-- 0 links, 1 start, 2 end, 3 number, 4 numbers, 5 found, 6 least: k09 -/
def x_nth_chain_2 (a_numbers_to a_is_integer a_next_entries : ASp) (ax_need_log ax_need_range : AXp) : XS :=
  fun Xa =>
  (dSeq (dExpr (rCall ax_need_log (dCons (dVar 0) dNil) Xa))
  (dSeq (dExpr (rCall ax_need_range (dCons (dVar 0) (dCons (dVar 1) (dCons (dVar 2) dNil))) Xa))
  (dSeq (dAsg 4 (dCall a_numbers_to (dCons (dVar 0) (dCons (dVar 1) (dCons (dVar 2) dNil)))))
  (dSeq (dIfS (dNot (dB (dCall a_is_integer (dCons (dVar 3) (dCons (dC (.int 0)) (dCons (dOp aSub (dGet (dVar 4) (dVar 1)) (dC (.int 1))) dNil)))))) (xRaise "InvalidNumber" Xa) dNext)
  (dSeq (dAsg 5 (dLstM (dCons (dVar 1) dNil)))
  (dSeq (dWhile (t1_x_nth_chain_2 a_numbers_to a_is_integer a_next_entries ax_need_log ax_need_range) (b1_x_nth_chain_2 a_numbers_to a_is_integer a_next_entries ax_need_log ax_need_range))
  (dRet (dVar 5))))))))
def b1_chain_number (a_need_log a_need_chain a_numbers_to a_next_entries : ASp) : AS :=
  (dSeq (dAsg 6 (dOp aIx (dCall a_next_entries (dCons (dVar 0) (dCons (dVar 4) (dCons (dOp aIx (dVar 1) (dUn aNeg (dC (.int 1)))) dNil)))) (dC (.int 0))))
  (dAug 3 (aI fun i j => i + j) (dIf (dB (dOp (aB fun i j => decide (j < i)) (dVar 5) (dVar 6))) (dGet (dVar 2) (dVar 6)) (dC (.int 0)))))
/-- 0 links, 1 chain, 2 numbers, 3 found, 4 entry, 5 later, 6 least: k09 k11 k12 k72 k73 k79 k80 -/
def g_chain_number (a_need_log a_need_chain a_numbers_to a_next_entries : ASp) : AS :=
  (dSeq (dExpr (dCall a_need_log (dCons (dVar 0) dNil)))
  (dSeq (dExpr (dCall a_need_chain (dCons (dVar 0) (dCons (dVar 1) dNil))))
  (dSeq (dAsg 2 (dCall a_numbers_to (dCons (dVar 0) (dCons (dOp aIx (dVar 1) (dC (.int 0))) (dCons (dOp aIx (dVar 1) (dUn aNeg (dC (.int 1)))) dNil)))))
  (dSeq (dAsg 3 (dC (.int 0)))
  (dSeq (dFor (sZip (dCons (dVar 1) (dCons (dSl false (dVar 1) (dPart (dC (.int 1))) dNoPart) dNil))) (gT 2 (gN1 (gN 4) (gN1 (gN 5) gN0)))
  (b1_chain_number a_need_log a_need_chain a_numbers_to a_next_entries))
  (dRet (dVar 3)))))))
def b1_x_chain_number (a_numbers_to a_next_entries : ASp) (ax_need_log ax_need_chain : AXp) : AS :=
  (dSeq (dAsg 6 (dOp aIx (dCall a_next_entries (dCons (dVar 0) (dCons (dVar 4) (dCons (dOp aIx (dVar 1) (dUn aNeg (dC (.int 1)))) dNil)))) (dC (.int 0))))
  (dAug 3 (aI fun i j => i + j) (dIf (dB (dOp (aB fun i j => decide (j < i)) (dVar 5) (dVar 6))) (dGet (dVar 2) (dVar 6)) (dC (.int 0)))))
/-- 0 links, 1 chain, 2 numbers, 3 found, 4 entry, 5 later, 6 least: k09 k11 k12 k72 k73 k79 k80 -/
def x_chain_number (a_numbers_to a_next_entries : ASp) (ax_need_log ax_need_chain : AXp) : XS :=
  fun Xa =>
  (dSeq (dExpr (rCall ax_need_log (dCons (dVar 0) dNil) Xa))
  (dSeq (dExpr (rCall ax_need_chain (dCons (dVar 0) (dCons (dVar 1) dNil)) Xa))
  (dSeq (dAsg 2 (dCall a_numbers_to (dCons (dVar 0) (dCons (dOp aIx (dVar 1) (dC (.int 0))) (dCons (dOp aIx (dVar 1) (dUn aNeg (dC (.int 1)))) dNil)))))
  (dSeq (dAsg 3 (dC (.int 0)))
  (dSeq (dFor (sZip (dCons (dVar 1) (dCons (dSl false (dVar 1) (dPart (dC (.int 1))) dNoPart) dNil))) (gT 2 (gN1 (gN 4) (gN1 (gN 5) gN0)))
  (b1_x_chain_number a_numbers_to a_next_entries ax_need_log ax_need_chain))
  (dRet (dVar 3)))))))
def b1_law_every (a_law_next a_law_every : ASp) : AS :=
  (dExpr (dMeth aExtend (dVar 3) (dCons (dLc (sList (dCall a_law_every (dCons (dVar 0) (dCons (dVar 4) (dCons (dVar 2) dNil))))) (gN 5) dYes (dOp (aAdd false) (dLst (dCons (dVar 1) dNil)) (dVar 5)) [5]) dNil)))
/-- 0 links, 1 start, 2 end, 3 found, 4 later, 5 rest: k09 k10 k16 -/
def g_law_every (a_law_next a_law_every : ASp) : AS :=
  (dSeq (dIfS (dB (dOp (aEq) (dVar 1) (dVar 2))) (dRet (dLst (dCons (dLst (dCons (dVar 2) dNil)) dNil))) dNext)
  (dSeq (dAsg 3 (dLstM dNil))
  (dSeq (dFor (sList (dCall a_law_next (dCons (dVar 0) (dCons (dVar 1) (dCons (dVar 2) dNil))))) (gN 4)
  (b1_law_every a_law_next a_law_every))
  (dRet (dFrz (dVar 3))))))
def b1_law_every_2 (a_law_targets : ASp) : AS :=
  (dExpr (dMeth aExtend (dVar 3) (dCons (dLc (sList (dCall a_law_targets (dCons (dVar 4) dNil))) (gN 5) dYes (dOp (aAdd false) (dVar 4) (dLst (dCons (dVar 5) dNil))) [5]) dNil)))
def b2_law_every_2 (a_law_targets : ASp) : AS :=
  (dSeq (dAsg 3 (dLstM dNil))
  (dSeq (dFor (sList (dVar 1)) (gN 4)
  (b1_law_every_2 a_law_targets))
  (dAsg 1 (dVar 3))))
/-- 0 size, 1 found, 2 entry, 3 longer, 4 links, 5 target: k41 k45 k47 -/
def g_law_every_2 (a_law_targets : ASp) : AS :=
  (dSeq (dAsg 1 (dLst (dCons (dLst (dCons (dC (.int 0)) dNil)) dNil)))
  (dSeq (dFor (sRng2 (dCons (dC (.int 1)) (dCons (dVar 0) dNil))) (gN 2)
  (b2_law_every_2 a_law_targets))
  (dRet (dVar 1))))
def b1_law_all (a_law_open : ASp) : AS :=
  (dExpr (dMeth aExtend (dVar 3) (dCons (dLc (sList (dCall a_law_open (dCons (dVar 4) dNil))) (gN 5) dYes (dOp (aAdd false) (dVar 4) (dLst (dCons (dVar 5) dNil))) [5]) dNil)))
def b2_law_all (a_law_open : ASp) : AS :=
  (dSeq (dAsg 3 (dLstM dNil))
  (dSeq (dFor (sList (dVar 1)) (gN 4)
  (b1_law_all a_law_open))
  (dAsg 1 (dVar 3))))
/-- 0 size, 1 found, 2 turn, 3 longer, 4 links, 5 goal: k19 k20 -/
def g_law_all (a_law_open : ASp) : AS :=
  (dSeq (dAsg 1 (dLst (dCons (dLst (dCons (dC (.int 0)) dNil)) dNil)))
  (dSeq (dFor (sRng1 (dCons (dOp aSub (dVar 0) (dC (.int 1))) dNil)) (gN 2)
  (b2_law_all a_law_open))
  (dRet (dVar 1))))
/-- 0 size: k12 k17 -/
def g_law_no_entries : AS :=
  (dRet (dLst (dCons (dC .none) (dCons (dUn aNeg (dC (.int 1))) (dCons (dVar 0) (dCons (dC (.bool true)) (dCons (dC (.bool false)) (dCons (dC (.str "0")) (dCons (dLst (dCons (dC (.int 0)) dNil)) (dCons (dTup (dCons (dC (.int 0)) dNil)) (dCons (dOp aPow (dC (.int 10)) (dC (.int 30))) (dCons (dC (.dict [])) (dCons (dUn aNeg (dC (.int 2))) (dCons (dOp aSub (dC (.int 0)) (dVar 0)) (dCons (dOp (aAdd false) (dVar 0) (dC (.int 1))) dNil)))))))))))))))
def b1_greatest_common : AS :=
  (dIfS (dB (dCB aAll (dCons (dLc (sList (dVar 2)) (gN 4) dYes (dOp (aIn false) (dVar 3) (dVar 4)) [4]) dNil))) (dRet (dVar 3)) dNext)
/-- 0 chains, 1 first, 2 others, 3 entry, 4 chain: k14 k15 k16 k17 k18 k56 k69 k70 k71 k72 k73 k78 k79 k80 -/
def g_greatest_common : AS :=
  (dSeq (dAsgHead 1 2 (dVar 0))
  (dSeq (dFor (sList (dVar 1)) (gN 3)
  (b1_greatest_common))
  (dRet (dC .none))))
def b1_meeting_of (a_need_log a_need_chain a_greatest_common : ASp) : AS :=
  (dExpr (dCall a_need_chain (dCons (dVar 0) (dCons (dVar 2) dNil))))
/-- 0 links, 1 chains, 2 chain: k14 k17 k18 k73 k79 -/
def g_meeting_of (a_need_log a_need_chain a_greatest_common : ASp) : AS :=
  (dSeq (dExpr (dCall a_need_log (dCons (dVar 0) dNil)))
  (dSeq (dIfS (dB (dOp (aEq) (dCB aLen (dCons (dVar 1) dNil)) (dC (.int 0)))) dNever dNext)
  (dSeq (dFor (sTup (dVar 1)) (gN 2)
  (b1_meeting_of a_need_log a_need_chain a_greatest_common))
  (dRet (dCallT a_greatest_common (dVar 1))))))
/-- 0 links, 1 start, 2 end, 3 other_start, 4 other_end: k15 k16 k17 k18 k56 k69 k70 k71 k72 k73 k78 k79 k80 -/
def g_both_shortest (a_need_log a_need_range a_greedy_chain : ASp) : AS :=
  (dSeq (dExpr (dCall a_need_log (dCons (dVar 0) dNil)))
  (dSeq (dExpr (dCall a_need_range (dCons (dVar 0) (dCons (dVar 1) (dCons (dVar 2) dNil)))))
  (dSeq (dExpr (dCall a_need_range (dCons (dVar 0) (dCons (dVar 3) (dCons (dVar 4) dNil)))))
  (dRet (dTup (dCons (dCall a_greedy_chain (dCons (dVar 0) (dCons (dVar 1) (dCons (dVar 2) dNil)))) (dCons (dCall a_greedy_chain (dCons (dVar 0) (dCons (dVar 3) (dCons (dVar 4) dNil)))) dNil)))))))
/-- 0 links, 1 start, 2 end, 3 other_start, 4 other_end: k15 k16 k17 k18 k56 k69 k70 k71 k72 k73 k78 k79 k80 -/
def x_both_shortest (a_greedy_chain : ASp) (ax_need_log ax_need_range : AXp) : XS :=
  fun Xa =>
  (dSeq (dExpr (rCall ax_need_log (dCons (dVar 0) dNil) Xa))
  (dSeq (dExpr (rCall ax_need_range (dCons (dVar 0) (dCons (dVar 1) (dCons (dVar 2) dNil))) Xa))
  (dSeq (dExpr (rCall ax_need_range (dCons (dVar 0) (dCons (dVar 3) (dCons (dVar 4) dNil))) Xa))
  (dRet (dTup (dCons (dCall a_greedy_chain (dCons (dVar 0) (dCons (dVar 1) (dCons (dVar 2) dNil)))) (dCons (dCall a_greedy_chain (dCons (dVar 0) (dCons (dVar 3) (dCons (dVar 4) dNil)))) dNil)))))))
/-- 0 links, 1 start, 2 end, 3 other_start, 4 other_end, 5 chains: k15 k16 k17 k18 k56 k69 k70 k71 k72 k73 k78 k79 k80 -/
def g_sure_meeting (a_both_shortest a_greatest_common : ASp) : AS :=
  (dSeq (dAsg 5 (dCall a_both_shortest (dCons (dVar 0) (dCons (dVar 1) (dCons (dVar 2) (dCons (dVar 3) (dCons (dVar 4) dNil)))))))
  (dRet (dCallT a_greatest_common (dVar 5))))
/-- 0 links, 1 start, 2 end, 3 other_start, 4 other_end, 5 chains: k15 k16 k17 k18 k56 k69 k70 k71 k72 k73 k78 k79 k80 -/
def x_sure_meeting (a_greatest_common : ASp) (ax_both_shortest : AXp) : XS :=
  fun Xa =>
  (dSeq (dAsg 5 (rCall ax_both_shortest (dCons (dVar 0) (dCons (dVar 1) (dCons (dVar 2) (dCons (dVar 3) (dCons (dVar 4) dNil))))) Xa))
  (dRet (dCallT a_greatest_common (dVar 5))))
/-- 0 links, 1 start, 2 end, 3 other_start, 4 other_end, 5 chains: k16 k17 k18 k73 k79 k80 -/
def g_apart_chains (a_both_shortest a_greatest_common : ASp) : AS :=
  (dSeq (dAsg 5 (dCall a_both_shortest (dCons (dVar 0) (dCons (dVar 1) (dCons (dVar 2) (dCons (dVar 3) (dCons (dVar 4) dNil)))))))
  (dRet (dIf (dB (dIsN (dCallT a_greatest_common (dVar 5)))) (dVar 5) (dC .none))))
/-- 0 links, 1 start, 2 end, 3 other_start, 4 other_end, 5 chains: k16 k17 k18 k73 k79 k80 -/
def x_apart_chains (a_greatest_common : ASp) (ax_both_shortest : AXp) : XS :=
  fun Xa =>
  (dSeq (dAsg 5 (rCall ax_both_shortest (dCons (dVar 0) (dCons (dVar 1) (dCons (dVar 2) (dCons (dVar 3) (dCons (dVar 4) dNil))))) Xa))
  (dRet (dIf (dB (dIsN (dCallT a_greatest_common (dVar 5)))) (dVar 5) (dC .none))))
/-- 0 value: k19 k20 k21 k22 k23 k24 k25 k26 k27 k28 k29 k30 k31 k45 k48 k49 k74 k76 k78 k82 -/
def g_need_size (a_is_integer : ASp) : AS :=
  (dIfS (dNot (dB (dCall a_is_integer (dCons (dVar 0) (dCons (dC (.int 1)) (dCons (dC (.int 150)) dNil)))))) dNever dNext)
/-- 0 value: k19 k20 k21 k22 k23 k24 k25 k26 k27 k28 k29 k30 k31 k45 k48 k49 k74 k76 k78 k82 -/
def x_need_size (a_is_integer : ASp) : XS :=
  fun Xa =>
  (dIfS (dNot (dB (dCall a_is_integer (dCons (dVar 0) (dCons (dC (.int 1)) (dCons (dC (.int 150)) dNil)))))) (xRaise "InvalidSize" Xa) dNext)
def b1_ways_to_go_on : AS :=
  (dExpr (dMeth aAppend (dVar 4) (dCons (dOp (aAdd false) (dOp aIx (dVar 4) (dUn aNeg (dC (.int 1)))) (dOp aIx (dVar 3) (dOp (aAdd false) (dVar 5) (dC (.int 1))))) dNil)))
def b2_ways_to_go_on : AS :=
  (dSeq (dPar2 3 4 (dCons (dOp aIx (dVar 1) (dUn aNeg (dC (.int 1)))) (dCons (dLstM (dCons (dC (.int 0)) dNil)) dNil)))
  (dSeq (dFor (sRng2 (dCons (dC (.int 1)) (dCons (dOp aSub (dCB aLen (dCons (dVar 3) dNil)) (dC (.int 1))) dNil))) (gN 5)
  (b1_ways_to_go_on))
  (dExpr (dMeth aAppend (dVar 1) (dCons (dFrz (dVar 4)) dNil)))))
/-- 0 size, 1 table, 2 left, 3 before, 4 row, 5 many: k19 k20 k21 k22 k23 k74 k78 k81 k82 -/
def g_ways_to_go_on : AS :=
  (dSeq (dAsg 1 (dLstM (dCons (dOp (aMul false) (dLst (dCons (dC (.int 1)) dNil)) (dOp (aAdd false) (dVar 0) (dC (.int 2)))) dNil)))
  (dSeq (dFor (sRng2 (dCons (dC (.int 1)) (dCons (dVar 0) dNil))) (gN 2)
  (b2_ways_to_go_on))
  (dRet (dFrz (dVar 1)))))
/-- 0 size: k19 k20 k21 k22 k23 k74 k82 -/
def g_number_of_logs (a_ways_to_go_on : ASp) : AS :=
  (dRet (dOp aIx (dOp aIx (dCall a_ways_to_go_on (dCons (dVar 0) dNil)) (dOp aSub (dVar 0) (dC (.int 1)))) (dC (.int 1))))
/-- 0 size: k19 k20 k21 k22 k23 -/
def g_count_logs (a_need_size a_number_of_logs : ASp) : AS :=
  (dSeq (dExpr (dCall a_need_size (dCons (dVar 0) dNil)))
  (dRet (dCall a_number_of_logs (dCons (dVar 0) dNil))))
/-- 0 size: k19 k20 k21 k22 k23 -/
def x_count_logs (a_number_of_logs : ASp) (ax_need_size : AXp) : XS :=
  fun Xa =>
  (dSeq (dExpr (rCall ax_need_size (dCons (dVar 0) dNil) Xa))
  (dRet (dCall a_number_of_logs (dCons (dVar 0) dNil))))
/-- 0 script, 1 k, 2 cell: k19 k20 k21 k22 k23 k51 k52 k53 k54 k55 k56 k66 k67 k68 k69 k70 k71 k72 -/
def g_law_reel : AS :=
  (dSeq (dAsg 2 (dC (.int 0)))
  (dSeq (dIfS (dB (dOp (aB fun i j => decide (i < j)) (dVar 1) (dCB aLen (dCons (dVar 0) dNil)))) (dAsg 2 (dOp aIx (dVar 0) (dVar 1))) dNext)
  (dRet (dLstM (dCons (dCB aMax (dCons (dC (.int 0)) (dCons (dOp aSub (dVar 2) (dOp aPow (dC (.int 10)) (dC (.int 18)))) dNil))) (dCons (dOp (aAdd false) (dOp (aAdd false) (dOp (aMul false) (dOp aMod (dVar 2) (dOp (aAdd false) (dOp aPow (dC (.int 10)) (dC (.int 40))) (dC (.int 177)))) (dC (.int 512))) (dOp (aMul false) (dC (.int 31)) (dVar 1))) (dC (.int 9))) (dCons (dC (.int 0)) dNil)))))))
/-- 0 reel, 1 size, 2 found, 3 mixed: k19 k20 k21 k22 k23 k51 k52 k53 k54 k55 k56 k66 k67 k68 k69 k70 k71 k72 -/
def g_law_turn : AS :=
  (dSeq (dIfS (dB (dOp (aB fun i j => decide (j < i)) (dOp aIx (dVar 0) (dC (.int 0))) (dC (.int 0)))) (dSeq (dAsg 2 (dOp aMod (dOp aIx (dVar 0) (dC (.int 0))) (dVar 1)))
  (dSeq (dSetIx (dOp aDiv (dOp aIx (dVar 0) (dC (.int 0))) (dVar 1)) (dVar 0) (dC (.int 0)))
  (dRet (dVar 2)))) dNext)
  (dSeq (dSetIx (dOp (aAdd false) (dOp aIx (dVar 0) (dC (.int 2))) (dC (.int 1))) (dVar 0) (dC (.int 2)))
  (dSeq (dAsg 3 (dOp aMod (dOp aPow (dOp (aAdd false) (dOp aIx (dVar 0) (dC (.int 1))) (dOp (aMul false) (dC (.int 2860486313)) (dOp aIx (dVar 0) (dC (.int 2))))) (dC (.int 3))) (dOp (aAdd false) (dOp aPow (dC (.int 10)) (dC (.int 43))) (dC (.int 57)))))
  (dSeq (dAsg 3 (dOp aMod (dOp (aAdd false) (dOp (aMul false) (dVar 3) (dVar 3)) (dOp (aMul false) (dC (.int 1073676287)) (dOp aIx (dVar 0) (dC (.int 2))))) (dOp (aAdd false) (dOp aPow (dC (.int 10)) (dC (.int 42))) (dC (.int 63)))))
  (dRet (dOp aMod (dOp aDiv (dVar 3) (dC (.int 524347))) (dVar 1)))))))
def b1_law_open : AS :=
  (dIfS (dB (dOp (aEq) (dLc (sRng2 (dCons (dOp (aAdd false) (dVar 2) (dC (.int 1))) (dCons (dCB aLen (dCons (dVar 0) dNil)) dNil))) (gN 3) (dB (dOp (aB fun i j => decide (i < j)) (dOp aIx (dVar 0) (dVar 3)) (dVar 2))) (dVar 3) [3]) (dLst dNil))) (dExpr (dMeth aAppend (dVar 1) (dCons (dVar 2) dNil))) dNext)
/-- 0 links, 1 found, 2 goal, 3 entry: k19 k20 k21 k23 -/
def g_law_open : AS :=
  (dSeq (dAsg 1 (dLstM dNil))
  (dSeq (dFor (sRng1 (dCons (dCB aLen (dCons (dVar 0) dNil)) dNil)) (gN 2)
  (b1_law_open))
  (dRet (dFrz (dVar 1)))))
def t1_nth_log (a_need_size a_ways_to_go_on a_is_integer : ASp) : AT :=
  (dB (dOp (aB fun i j => decide (j ≤ i)) (dVar 1) (dOp aIx (dVar 5) (dOp (aAdd false) (dVar 6) (dC (.int 2))))))
def b1_nth_log (a_need_size a_ways_to_go_on a_is_integer : ASp) : AS :=
  (dSeq (dAug 1 (aI fun i j => i - j) (dOp aIx (dVar 5) (dOp (aAdd false) (dVar 6) (dC (.int 2)))))
  (dAug 6 (aI fun i j => i + j) (dC (.int 1))))
def t2_nth_log (a_need_size a_ways_to_go_on a_is_integer : ASp) : AT :=
  (dB (dOp (aB fun i j => decide (i < j)) (dCB aLen (dCons (dVar 3) dNil)) (dVar 0)))
def b2_nth_log (a_need_size a_ways_to_go_on a_is_integer : ASp) : AS :=
  (dSeq (dPar2 5 6 (dCons (dOp aIx (dVar 2) (dOp aSub (dOp aSub (dVar 0) (dC (.int 1))) (dCB aLen (dCons (dVar 3) dNil)))) (dCons (dC (.int 0)) dNil)))
  (dSeq (dWhile (t1_nth_log a_need_size a_ways_to_go_on a_is_integer) (b1_nth_log a_need_size a_ways_to_go_on a_is_integer))
  (dSeq (dAsg 4 (dOp (aAdd false) (dSl false (dVar 4) dNoPart (dPart (dOp (aAdd false) (dVar 6) (dC (.int 1))))) (dLst (dCons (dCB aLen (dCons (dVar 3) dNil)) dNil))))
  (dExpr (dMeth aAppend (dVar 3) (dCons (dOp aIx (dVar 4) (dVar 6)) dNil))))))
/-- 0 size, 1 number, 2 table, 3 links, 4 allowed, 5 row, 6 place: k21 k22 k23 -/
def g_nth_log (a_need_size a_ways_to_go_on a_is_integer : ASp) : AS :=
  (dSeq (dExpr (dCall a_need_size (dCons (dVar 0) dNil)))
  (dSeq (dAsg 2 (dCall a_ways_to_go_on (dCons (dVar 0) dNil)))
  (dSeq (dIfS (dNot (dB (dCall a_is_integer (dCons (dVar 1) (dCons (dC (.int 0)) (dCons (dOp aSub (dOp aIx (dOp aIx (dVar 2) (dOp aSub (dVar 0) (dC (.int 1)))) (dC (.int 1))) (dC (.int 1))) dNil)))))) dNever dNext)
  (dSeq (dPar2 3 4 (dCons (dLstM (dCons (dC (.int 0)) dNil)) (dCons (dLst (dCons (dC (.int 0)) dNil)) dNil)))
  (dSeq (dWhile (t2_nth_log a_need_size a_ways_to_go_on a_is_integer) (b2_nth_log a_need_size a_ways_to_go_on a_is_integer))
  (dRet (dFrz (dVar 3))))))))
def t1_nth_log_2 (a_need_size a_ways_to_go_on a_is_integer : ASp) : AT :=
  (dB (dOp (aB fun i j => decide (j ≤ i)) (dVar 1) (dOp aIx (dVar 5) (dOp (aAdd false) (dVar 6) (dC (.int 2))))))
def b1_nth_log_2 (a_need_size a_ways_to_go_on a_is_integer : ASp) : AS :=
  (dSeq (dAug 1 (aI fun i j => i - j) (dOp aIx (dVar 5) (dOp (aAdd false) (dVar 6) (dC (.int 2)))))
  (dAug 6 (aI fun i j => i + j) (dC (.int 1))))
def t2_nth_log_2 (a_need_size a_ways_to_go_on a_is_integer : ASp) : AT :=
  (dB (dOp (aB fun i j => decide (i < j)) (dCB aLen (dCons (dVar 3) dNil)) (dVar 0)))
def b2_nth_log_2 (a_need_size a_ways_to_go_on a_is_integer : ASp) : AS :=
  (dSeq (dPar2 5 6 (dCons (dOp aIx (dVar 2) (dOp aSub (dOp aSub (dVar 0) (dC (.int 1))) (dCB aLen (dCons (dVar 3) dNil)))) (dCons (dC (.int 0)) dNil)))
  (dSeq (dWhile (t1_nth_log_2 a_need_size a_ways_to_go_on a_is_integer) (b1_nth_log_2 a_need_size a_ways_to_go_on a_is_integer))
  (dSeq (dAsg 4 (dOp (aAdd false) (dSl false (dVar 4) dNoPart (dPart (dOp (aAdd false) (dVar 6) (dC (.int 1))))) (dLst (dCons (dCB aLen (dCons (dVar 3) dNil)) dNil))))
  (dExpr (dMeth aAppend (dVar 3) (dCons (dOp aIx (dVar 4) (dVar 6)) dNil))))))
/-- 0 size, 1 number, 2 table, 3 links, 4 allowed, 5 row, 6 place: k20 -/
def g_nth_log_2 (a_need_size a_ways_to_go_on a_is_integer : ASp) : AS :=
  (dSeq (dExpr (dCall a_need_size (dCons (dVar 0) dNil)))
  (dSeq (dAsg 2 (dCall a_ways_to_go_on (dCons (dVar 0) dNil)))
  (dSeq (dIfS (dNot (dB (dCall a_is_integer (dCons (dVar 1) (dCons (dC (.int 0)) (dCons (dOp aSub (dOp aIx (dOp aIx (dVar 2) (dOp aSub (dVar 0) (dC (.int 1)))) (dC (.int 1))) (dC (.int 1))) dNil)))))) dNever dNext)
  (dSeq (dPar2 3 4 (dCons (dLstM (dCons (dC (.int 0)) dNil)) (dCons (dLst (dCons (dC (.int 0)) dNil)) dNil)))
  (dSeq (dWhile (t2_nth_log_2 a_need_size a_ways_to_go_on a_is_integer) (b2_nth_log_2 a_need_size a_ways_to_go_on a_is_integer))
  (dRet (dVar 3)))))))
def t1_x_nth_log (a_ways_to_go_on a_is_integer : ASp) (ax_need_size : AXp) : AT :=
  (dB (dOp (aB fun i j => decide (j ≤ i)) (dVar 1) (dOp aIx (dVar 5) (dOp (aAdd false) (dVar 6) (dC (.int 2))))))
def b1_x_nth_log (a_ways_to_go_on a_is_integer : ASp) (ax_need_size : AXp) : AS :=
  (dSeq (dAug 1 (aI fun i j => i - j) (dOp aIx (dVar 5) (dOp (aAdd false) (dVar 6) (dC (.int 2)))))
  (dAug 6 (aI fun i j => i + j) (dC (.int 1))))
def t2_x_nth_log (a_ways_to_go_on a_is_integer : ASp) (ax_need_size : AXp) : AT :=
  (dB (dOp (aB fun i j => decide (i < j)) (dCB aLen (dCons (dVar 3) dNil)) (dVar 0)))
def b2_x_nth_log (a_ways_to_go_on a_is_integer : ASp) (ax_need_size : AXp) : AS :=
  (dSeq (dPar2 5 6 (dCons (dOp aIx (dVar 2) (dOp aSub (dOp aSub (dVar 0) (dC (.int 1))) (dCB aLen (dCons (dVar 3) dNil)))) (dCons (dC (.int 0)) dNil)))
  (dSeq (dWhile (t1_x_nth_log a_ways_to_go_on a_is_integer ax_need_size) (b1_x_nth_log a_ways_to_go_on a_is_integer ax_need_size))
  (dSeq (dAsg 4 (dOp (aAdd false) (dSl false (dVar 4) dNoPart (dPart (dOp (aAdd false) (dVar 6) (dC (.int 1))))) (dLst (dCons (dCB aLen (dCons (dVar 3) dNil)) dNil))))
  (dExpr (dMeth aAppend (dVar 3) (dCons (dOp aIx (dVar 4) (dVar 6)) dNil))))))
/-- 0 size, 1 number, 2 table, 3 links, 4 allowed, 5 row, 6 place: k21 k22 k23 -/
def x_nth_log (a_ways_to_go_on a_is_integer : ASp) (ax_need_size : AXp) : XS :=
  fun Xa =>
  (dSeq (dExpr (rCall ax_need_size (dCons (dVar 0) dNil) Xa))
  (dSeq (dAsg 2 (dCall a_ways_to_go_on (dCons (dVar 0) dNil)))
  (dSeq (dIfS (dNot (dB (dCall a_is_integer (dCons (dVar 1) (dCons (dC (.int 0)) (dCons (dOp aSub (dOp aIx (dOp aIx (dVar 2) (dOp aSub (dVar 0) (dC (.int 1)))) (dC (.int 1))) (dC (.int 1))) dNil)))))) (xRaise "InvalidNumber" Xa) dNext)
  (dSeq (dPar2 3 4 (dCons (dLstM (dCons (dC (.int 0)) dNil)) (dCons (dLst (dCons (dC (.int 0)) dNil)) dNil)))
  (dSeq (dWhile (t2_x_nth_log a_ways_to_go_on a_is_integer ax_need_size) (b2_x_nth_log a_ways_to_go_on a_is_integer ax_need_size))
  (dRet (dFrz (dVar 3))))))))
def t1_x_nth_log_2 (a_ways_to_go_on a_is_integer : ASp) (ax_need_size : AXp) : AT :=
  (dB (dOp (aB fun i j => decide (j ≤ i)) (dVar 1) (dOp aIx (dVar 5) (dOp (aAdd false) (dVar 6) (dC (.int 2))))))
def b1_x_nth_log_2 (a_ways_to_go_on a_is_integer : ASp) (ax_need_size : AXp) : AS :=
  (dSeq (dAug 1 (aI fun i j => i - j) (dOp aIx (dVar 5) (dOp (aAdd false) (dVar 6) (dC (.int 2)))))
  (dAug 6 (aI fun i j => i + j) (dC (.int 1))))
def t2_x_nth_log_2 (a_ways_to_go_on a_is_integer : ASp) (ax_need_size : AXp) : AT :=
  (dB (dOp (aB fun i j => decide (i < j)) (dCB aLen (dCons (dVar 3) dNil)) (dVar 0)))
def b2_x_nth_log_2 (a_ways_to_go_on a_is_integer : ASp) (ax_need_size : AXp) : AS :=
  (dSeq (dPar2 5 6 (dCons (dOp aIx (dVar 2) (dOp aSub (dOp aSub (dVar 0) (dC (.int 1))) (dCB aLen (dCons (dVar 3) dNil)))) (dCons (dC (.int 0)) dNil)))
  (dSeq (dWhile (t1_x_nth_log_2 a_ways_to_go_on a_is_integer ax_need_size) (b1_x_nth_log_2 a_ways_to_go_on a_is_integer ax_need_size))
  (dSeq (dAsg 4 (dOp (aAdd false) (dSl false (dVar 4) dNoPart (dPart (dOp (aAdd false) (dVar 6) (dC (.int 1))))) (dLst (dCons (dCB aLen (dCons (dVar 3) dNil)) dNil))))
  (dExpr (dMeth aAppend (dVar 3) (dCons (dOp aIx (dVar 4) (dVar 6)) dNil))))))
/-- 0 size, 1 number, 2 table, 3 links, 4 allowed, 5 row, 6 place: k20 -/
def x_nth_log_2 (a_ways_to_go_on a_is_integer : ASp) (ax_need_size : AXp) : XS :=
  fun Xa =>
  (dSeq (dExpr (rCall ax_need_size (dCons (dVar 0) dNil) Xa))
  (dSeq (dAsg 2 (dCall a_ways_to_go_on (dCons (dVar 0) dNil)))
  (dSeq (dIfS (dNot (dB (dCall a_is_integer (dCons (dVar 1) (dCons (dC (.int 0)) (dCons (dOp aSub (dOp aIx (dOp aIx (dVar 2) (dOp aSub (dVar 0) (dC (.int 1)))) (dC (.int 1))) (dC (.int 1))) dNil)))))) (xRaise "InvalidNumber" Xa) dNext)
  (dSeq (dPar2 3 4 (dCons (dLstM (dCons (dC (.int 0)) dNil)) (dCons (dLst (dCons (dC (.int 0)) dNil)) dNil)))
  (dSeq (dWhile (t2_x_nth_log_2 a_ways_to_go_on a_is_integer ax_need_size) (b2_x_nth_log_2 a_ways_to_go_on a_is_integer ax_need_size))
  (dRet (dVar 3)))))))
def b1_log_number (a_need_log a_ways_to_go_on : ASp) : AS :=
  (dSeq (dAsg 5 (dOp aIx (dVar 1) (dOp aSub (dOp aSub (dCB aLen (dCons (dVar 0) dNil)) (dC (.int 1))) (dVar 4))))
  (dSeq (dAsg 6 (dMeth aIndex (dVar 3) (dCons (dOp aIx (dVar 0) (dVar 4)) dNil)))
  (dSeq (dAug 2 (aI fun i j => i + j) (dCB aSum (dCons (dSl false (dVar 5) (dPart (dC (.int 2))) (dPart (dOp (aAdd false) (dVar 6) (dC (.int 2))))) dNil)))
  (dAsg 3 (dOp (aAdd false) (dSl false (dVar 3) dNoPart (dPart (dOp (aAdd false) (dVar 6) (dC (.int 1))))) (dLst (dCons (dVar 4) dNil)))))))
/-- 0 links, 1 table, 2 found, 3 allowed, 4 entry, 5 row, 6 place: k20 k21 k22 k23 k74 k78 k81 k82 -/
def g_log_number (a_need_log a_ways_to_go_on : ASp) : AS :=
  (dSeq (dExpr (dCall a_need_log (dCons (dVar 0) dNil)))
  (dSeq (dAsg 1 (dCall a_ways_to_go_on (dCons (dCB aLen (dCons (dVar 0) dNil)) dNil)))
  (dSeq (dPar2 2 3 (dCons (dC (.int 0)) (dCons (dLst (dCons (dC (.int 0)) dNil)) dNil)))
  (dSeq (dFor (sRng2 (dCons (dC (.int 1)) (dCons (dCB aLen (dCons (dVar 0) dNil)) dNil))) (gN 4)
  (b1_log_number a_need_log a_ways_to_go_on))
  (dRet (dVar 2))))))
def b1_x_log_number (a_ways_to_go_on : ASp) (ax_need_log : AXp) : AS :=
  (dSeq (dAsg 5 (dOp aIx (dVar 1) (dOp aSub (dOp aSub (dCB aLen (dCons (dVar 0) dNil)) (dC (.int 1))) (dVar 4))))
  (dSeq (dAsg 6 (dMeth aIndex (dVar 3) (dCons (dOp aIx (dVar 0) (dVar 4)) dNil)))
  (dSeq (dAug 2 (aI fun i j => i + j) (dCB aSum (dCons (dSl false (dVar 5) (dPart (dC (.int 2))) (dPart (dOp (aAdd false) (dVar 6) (dC (.int 2))))) dNil)))
  (dAsg 3 (dOp (aAdd false) (dSl false (dVar 3) dNoPart (dPart (dOp (aAdd false) (dVar 6) (dC (.int 1))))) (dLst (dCons (dVar 4) dNil)))))))
/-- 0 links, 1 table, 2 found, 3 allowed, 4 entry, 5 row, 6 place: k20 k21 k22 k23 k74 k78 k81 k82 -/
def x_log_number (a_ways_to_go_on : ASp) (ax_need_log : AXp) : XS :=
  fun Xa =>
  (dSeq (dExpr (rCall ax_need_log (dCons (dVar 0) dNil) Xa))
  (dSeq (dAsg 1 (dCall a_ways_to_go_on (dCons (dCB aLen (dCons (dVar 0) dNil)) dNil)))
  (dSeq (dPar2 2 3 (dCons (dC (.int 0)) (dCons (dLst (dCons (dC (.int 0)) dNil)) dNil)))
  (dSeq (dFor (sRng2 (dCons (dC (.int 1)) (dCons (dCB aLen (dCons (dVar 0) dNil)) dNil))) (gN 4)
  (b1_x_log_number a_ways_to_go_on ax_need_log))
  (dRet (dVar 2))))))
def b1_law_grown (a_law_turn : ASp) : AS :=
  (dSeq (dAsg 6 (dCB aLen (dCons (dVar 4) dNil)))
  (dSeq (dPar2 7 8 (dCons (dCall a_law_turn (dCons (dVar 0) (dCons (dCB aMin (dCons (dC (.int 2)) (dCons (dVar 6) dNil))) dNil))) (dCons (dOp aSub (dOp aSub (dVar 6) (dC (.int 1))) (dCall a_law_turn (dCons (dVar 0) (dCons (dCB aMin (dCons (dC (.int 3)) (dCons (dVar 6) dNil))) dNil)))) dNil)))
  (dSeq (dAsg 9 (dIf (dB (dOp (aEq) (dCall a_law_turn (dCons (dVar 0) (dCons (dC (.int 6)) dNil))) (dC (.int 0)))) (dCall a_law_turn (dCons (dVar 0) (dCons (dVar 6) dNil))) (dOp aSub (dVar 6) (dC (.int 1)))))
  (dSeq (dAsg 10 (dOp aIx (dLst (dCons (dCall a_law_turn (dCons (dVar 0) (dCons (dVar 6) dNil))) (dCons (dVar 7) (dCons (dVar 8) (dCons (dVar 9) (dCons (dOp aDiv (dVar 6) (dC (.int 2))) (dCons (dCall a_law_turn (dCons (dVar 0) (dCons (dVar 6) dNil))) dNil))))))) (dVar 2)))
  (dSeq (dExpr (dMeth aAppend (dVar 3) (dCons (dOp aIx (dVar 4) (dVar 10)) dNil)))
  (dAsg 4 (dOp (aAdd false) (dSl false (dVar 4) dNoPart (dPart (dOp (aAdd false) (dVar 10) (dC (.int 1))))) (dLst (dCons (dVar 5) dNil)))))))))
/-- 0 reel, 1 size, 2 style, 3 found, 4 some, 5 entry, 6 many, 7 low, 8 high, 9 rare, 10 at: k21 k22 k23 k67 k68 k69 k70 k71 k72 -/
def g_law_grown (a_law_turn : ASp) : AS :=
  (dSeq (dPar3 2 3 4 (dCons (dCall a_law_turn (dCons (dVar 0) (dCons (dC (.int 6)) dNil))) (dCons (dLstM (dCons (dC (.int 0)) dNil)) (dCons (dLst (dCons (dC (.int 0)) dNil)) dNil))))
  (dSeq (dFor (sRng2 (dCons (dC (.int 1)) (dCons (dVar 1) dNil))) (gN 5)
  (b1_law_grown a_law_turn))
  (dRet (dFrz (dVar 3)))))
def b1_law_grown_2 (a_law_take a_law_allowed : ASp) : AS :=
  (dSeq (dAsg 6 (dCall a_law_allowed (dCons (dVar 3) dNil)))
  (dSeq (dAsg 7 (dCall a_law_take (dCons (dVar 0) (dCons (dCB aLen (dCons (dVar 6) dNil)) dNil))))
  (dSeq (dAsg 8 (dOp aIx (dLst (dCons (dVar 7) (dCons (dOp aSub (dCB aLen (dCons (dVar 6) dNil)) (dC (.int 1))) (dCons (dC (.int 0)) (dCons (dOp aDiv (dCB aLen (dCons (dVar 6) dNil)) (dC (.int 2))) dNil))))) (dVar 4)))
  (dExpr (dMeth aAppend (dVar 3) (dCons (dOp aIx (dVar 6) (dIf (dB (dOp (aB fun i j => decide (j < i)) (dCall a_law_take (dCons (dVar 0) (dCons (dC (.int 5)) dNil))) (dC (.int 0)))) (dVar 8) (dVar 7))) dNil))))))
/-- 0 bag, 1 links, 2 many, 3 found, 4 style, 5 turn, 6 able, 7 drawn, 8 spot: k80 k81 k82 -/
def g_law_grown_2 (a_law_take a_law_allowed : ASp) : AS :=
  (dSeq (dPar2 3 4 (dCons (dCB (aList true) (dCons (dVar 1) dNil)) (dCons (dCall a_law_take (dCons (dVar 0) (dCons (dC (.int 4)) dNil))) dNil)))
  (dSeq (dFor (sRng1 (dCons (dVar 2) dNil)) (gN 5)
  (b1_law_grown_2 a_law_take a_law_allowed))
  (dRet (dFrz (dVar 3)))))
/-- 0 value, 1 least, 2 most: k21 k22 k55 k66 k67 k68 k69 k70 k71 -/
def g_law_whole : AS :=
  (dRet (dAndV (dIsi "int" (dVar 0)) (dAndV (dNotV (dIsi "bool" (dVar 0))) (dChain (aB fun i j => decide (i ≤ j)) (aB fun i j => decide (i ≤ j)) (dVar 1) (dVar 0) (dVar 2)))))
def b1_law_is_log (a_law_whole : ASp) : AS :=
  (dIfS (dNot (dB (dCall a_law_whole (dCons (dVar 2) (dCons (dC (.int 0)) (dCons (dCB aMax (dCons (dC (.int 0)) (dCons (dOp aSub (dVar 1) (dC (.int 1))) dNil))) dNil)))))) (dRet (dC (.bool false))) dNext)
def b2_law_is_log (a_law_whole : ASp) : AS :=
  (dSeq (dAsg 2 (dOp aIx (dVar 0) (dVar 1)))
  (dIfS (dB (dOp (aNe) (dLc (sRng2 (dCons (dOp (aAdd false) (dVar 2) (dC (.int 1))) (dCons (dVar 1) dNil))) (gN 3) (dB (dOp (aB fun i j => decide (i < j)) (dOp aIx (dVar 0) (dVar 3)) (dVar 2))) (dVar 3) [3]) (dLst dNil))) (dRet (dC (.bool false))) dNext))
/-- 0 value, 1 entry, 2 link, 3 other: k21 k22 k55 k66 k67 k68 k69 k70 k71 -/
def g_law_is_log (a_law_whole : ASp) : AS :=
  (dSeq (dIfS (dOr (dNot (dB (dIsi "list" (dVar 0)))) (dOr (dB (dOp (aB fun i j => decide (i < j)) (dCB aLen (dCons (dVar 0) dNil)) (dC (.int 1)))) (dB (dOp (aB fun i j => decide (j < i)) (dCB aLen (dCons (dVar 0) dNil)) (dC (.int 150)))))) (dRet (dC (.bool false))) dNext)
  (dSeq (dFor (sEnum (dCons (dVar 0) dNil)) (gT 2 (gN1 (gN 1) (gN1 (gN 2) gN0)))
  (b1_law_is_log a_law_whole))
  (dSeq (dFor (sRng2 (dCons (dC (.int 1)) (dCons (dCB aLen (dCons (dVar 0) dNil)) dNil))) (gN 1)
  (b2_law_is_log a_law_whole))
  (dRet (dC (.bool true))))))
/-- 0 caught, 1 kinds, 2 names, 3 found, 4 name, 5 kind: k22 k55 k67 k68 k69 k70 k71 -/
def g_law_kinds : AS :=
  (dSeq (dAsg 1 (dLst (dCons (dIsx ["InvalidLog", "InvalidEntry", "InvalidTarget", "InvalidChain", "InvalidNumber", "InvalidSize", "InvalidKnown", "InvalidPrices", "InvalidBase", "InvalidTag", "InvalidText", "InvalidCommand", "Different", "NothingToUndo"] "Crossing" (dVar 0)) (dCons (dIsx ["InvalidLog", "InvalidEntry", "InvalidTarget", "InvalidChain", "InvalidNumber", "InvalidSize", "InvalidKnown", "InvalidPrices", "InvalidBase", "InvalidTag", "InvalidText", "InvalidCommand", "Different", "NothingToUndo"] "Different" (dVar 0)) (dCons (dIsx ["InvalidLog", "InvalidEntry", "InvalidTarget", "InvalidChain", "InvalidNumber", "InvalidSize", "InvalidKnown", "InvalidPrices", "InvalidBase", "InvalidTag", "InvalidText", "InvalidCommand", "Different", "NothingToUndo"] "InvalidBase" (dVar 0)) dNil)))))
  (dSeq (dAsg 1 (dOp (aAdd false) (dVar 1) (dLst (dCons (dIsx ["InvalidLog", "InvalidEntry", "InvalidTarget", "InvalidChain", "InvalidNumber", "InvalidSize", "InvalidKnown", "InvalidPrices", "InvalidBase", "InvalidTag", "InvalidText", "InvalidCommand", "Different", "NothingToUndo"] "InvalidChain" (dVar 0)) (dCons (dIsx ["InvalidLog", "InvalidEntry", "InvalidTarget", "InvalidChain", "InvalidNumber", "InvalidSize", "InvalidKnown", "InvalidPrices", "InvalidBase", "InvalidTag", "InvalidText", "InvalidCommand", "Different", "NothingToUndo"] "InvalidChange" (dVar 0)) dNil)))))
  (dSeq (dAsg 1 (dOp (aAdd false) (dVar 1) (dLst (dCons (dIsx ["InvalidLog", "InvalidEntry", "InvalidTarget", "InvalidChain", "InvalidNumber", "InvalidSize", "InvalidKnown", "InvalidPrices", "InvalidBase", "InvalidTag", "InvalidText", "InvalidCommand", "Different", "NothingToUndo"] "InvalidCommand" (dVar 0)) (dCons (dIsx ["InvalidLog", "InvalidEntry", "InvalidTarget", "InvalidChain", "InvalidNumber", "InvalidSize", "InvalidKnown", "InvalidPrices", "InvalidBase", "InvalidTag", "InvalidText", "InvalidCommand", "Different", "NothingToUndo"] "InvalidEntry" (dVar 0)) dNil)))))
  (dSeq (dAsg 1 (dOp (aAdd false) (dVar 1) (dLst (dCons (dIsx ["InvalidLog", "InvalidEntry", "InvalidTarget", "InvalidChain", "InvalidNumber", "InvalidSize", "InvalidKnown", "InvalidPrices", "InvalidBase", "InvalidTag", "InvalidText", "InvalidCommand", "Different", "NothingToUndo"] "InvalidKnown" (dVar 0)) (dCons (dIsx ["InvalidLog", "InvalidEntry", "InvalidTarget", "InvalidChain", "InvalidNumber", "InvalidSize", "InvalidKnown", "InvalidPrices", "InvalidBase", "InvalidTag", "InvalidText", "InvalidCommand", "Different", "NothingToUndo"] "InvalidLog" (dVar 0)) dNil)))))
  (dSeq (dAsg 1 (dOp (aAdd false) (dVar 1) (dLst (dCons (dIsx ["InvalidLog", "InvalidEntry", "InvalidTarget", "InvalidChain", "InvalidNumber", "InvalidSize", "InvalidKnown", "InvalidPrices", "InvalidBase", "InvalidTag", "InvalidText", "InvalidCommand", "Different", "NothingToUndo"] "InvalidNumber" (dVar 0)) (dCons (dIsx ["InvalidLog", "InvalidEntry", "InvalidTarget", "InvalidChain", "InvalidNumber", "InvalidSize", "InvalidKnown", "InvalidPrices", "InvalidBase", "InvalidTag", "InvalidText", "InvalidCommand", "Different", "NothingToUndo"] "InvalidPrices" (dVar 0)) dNil)))))
  (dSeq (dAsg 1 (dOp (aAdd false) (dVar 1) (dLst (dCons (dIsx ["InvalidLog", "InvalidEntry", "InvalidTarget", "InvalidChain", "InvalidNumber", "InvalidSize", "InvalidKnown", "InvalidPrices", "InvalidBase", "InvalidTag", "InvalidText", "InvalidCommand", "Different", "NothingToUndo"] "InvalidSize" (dVar 0)) (dCons (dIsx ["InvalidLog", "InvalidEntry", "InvalidTarget", "InvalidChain", "InvalidNumber", "InvalidSize", "InvalidKnown", "InvalidPrices", "InvalidBase", "InvalidTag", "InvalidText", "InvalidCommand", "Different", "NothingToUndo"] "InvalidTag" (dVar 0)) dNil)))))
  (dSeq (dAsg 1 (dOp (aAdd false) (dVar 1) (dLst (dCons (dIsx ["InvalidLog", "InvalidEntry", "InvalidTarget", "InvalidChain", "InvalidNumber", "InvalidSize", "InvalidKnown", "InvalidPrices", "InvalidBase", "InvalidTag", "InvalidText", "InvalidCommand", "Different", "NothingToUndo"] "InvalidTarget" (dVar 0)) (dCons (dIsx ["InvalidLog", "InvalidEntry", "InvalidTarget", "InvalidChain", "InvalidNumber", "InvalidSize", "InvalidKnown", "InvalidPrices", "InvalidBase", "InvalidTag", "InvalidText", "InvalidCommand", "Different", "NothingToUndo"] "InvalidText" (dVar 0)) dNil)))))
  (dSeq (dAsg 1 (dOp (aAdd false) (dVar 1) (dLst (dCons (dIsx ["InvalidLog", "InvalidEntry", "InvalidTarget", "InvalidChain", "InvalidNumber", "InvalidSize", "InvalidKnown", "InvalidPrices", "InvalidBase", "InvalidTag", "InvalidText", "InvalidCommand", "Different", "NothingToUndo"] "NothingToUndo" (dVar 0)) dNil))))
  (dSeq (dAsg 2 (dLst (dCons (dC (.str "Crossing")) (dCons (dC (.str "Different")) (dCons (dC (.str "InvalidBase")) (dCons (dC (.str "InvalidChain")) (dCons (dC (.str "InvalidChange")) (dCons (dC (.str "InvalidCommand")) dNil))))))))
  (dSeq (dAsg 2 (dOp (aAdd false) (dVar 2) (dLst (dCons (dC (.str "InvalidEntry")) (dCons (dC (.str "InvalidKnown")) (dCons (dC (.str "InvalidLog")) (dCons (dC (.str "InvalidNumber")) (dCons (dC (.str "InvalidPrices")) dNil))))))))
  (dSeq (dAsg 2 (dOp (aAdd false) (dVar 2) (dLst (dCons (dC (.str "InvalidSize")) (dCons (dC (.str "InvalidTag")) (dCons (dC (.str "InvalidTarget")) (dCons (dC (.str "InvalidText")) (dCons (dC (.str "NothingToUndo")) dNil))))))))
  (dSeq (dAsg 3 (dLcM (sZip (dCons (dVar 2) (dCons (dVar 1) dNil))) (gT 2 (gN1 (gN 4) (gN1 (gN 5) gN0))) (dB (dVar 5)) (dVar 4) [4, 5]))
  (dSeq (dIfS (dOr (dNot (dB (dIsx ["InvalidLog", "InvalidEntry", "InvalidTarget", "InvalidChain", "InvalidNumber", "InvalidSize", "InvalidKnown", "InvalidPrices", "InvalidBase", "InvalidTag", "InvalidText", "InvalidCommand", "Different", "NothingToUndo"] "BacklinkError" (dVar 0)))) (dNot (dB (dIsx ["InvalidLog", "InvalidEntry", "InvalidTarget", "InvalidChain", "InvalidNumber", "InvalidSize", "InvalidKnown", "InvalidPrices", "InvalidBase", "InvalidTag", "InvalidText", "InvalidCommand", "Different", "NothingToUndo"] "ValueError" (dVar 0))))) (dExpr (dMeth aAppend (dVar 3) (dCons (dC (.str "odd")) dNil))) dNext)
  (dRet (dFrz (dVar 3))))))))))))))))
/-- 0 size, 1 value: k24 k30 -/
def g_are_known (a_need_size a_are_known_of : ASp) : AS :=
  (dSeq (dExpr (dCall a_need_size (dCons (dVar 0) dNil)))
  (dRet (dCall a_are_known_of (dCons (dVar 0) (dCons (dVar 1) dNil)))))
/-- 0 size, 1 value: k24 k30 -/
def x_are_known (a_are_known_of : ASp) (ax_need_size : AXp) : XS :=
  fun Xa =>
  (dSeq (dExpr (rCall ax_need_size (dCons (dVar 0) dNil) Xa))
  (dRet (dCall a_are_known_of (dCons (dVar 0) (dCons (dVar 1) dNil)))))
def t1_law_known (a_law_drip : ASp) : AT :=
  (dB (dOp (aNe) (dVar 3) (dLst dNil)))
def b1_law_known (a_law_drip : ASp) : AS :=
  (dSeq (dAsg 5 (dMeth aPopAt (dVar 3) (dCons (dCall a_law_drip (dCons (dVar 0) (dCons (dCB aLen (dCons (dVar 3) dNil)) dNil))) dNil)))
  (dIfS (dB (dOp (aB fun i j => decide (i < j)) (dCall a_law_drip (dCons (dVar 0) (dCons (dC (.int 4)) dNil))) (dVar 2))) (dPut (dOp aIx (dVar 1) (dVar 5)) (dVar 4) (dVar 5)) dNext))
/-- 0 vat, 1 links, 2 share, 3 left, 4 found, 5 entry: k24 k27 k28 k29 k30 k31 -/
def g_law_known (a_law_drip : ASp) : AS :=
  (dSeq (dPar3 2 3 4 (dCons (dCall a_law_drip (dCons (dVar 0) (dCons (dC (.int 5)) dNil))) (dCons (dLRg2 true (dC (.int 1)) (dCB aLen (dCons (dVar 1) dNil))) (dCons dDctM0 dNil))))
  (dSeq (dWhile (t1_law_known a_law_drip) (b1_law_known a_law_drip))
  (dRet (dFrz (dVar 4)))))
def t1_law_known_2 (a_law_drip : ASp) : AT :=
  (dB (dOp (aNe) (dVar 3) (dLst dNil)))
def b1_law_known_2 (a_law_drip : ASp) : AS :=
  (dSeq (dAsg 5 (dMeth aPopAt (dVar 3) (dCons (dCall a_law_drip (dCons (dVar 0) (dCons (dCB aLen (dCons (dVar 3) dNil)) dNil))) dNil)))
  (dIfS (dB (dOp (aB fun i j => decide (i < j)) (dCall a_law_drip (dCons (dVar 0) (dCons (dC (.int 4)) dNil))) (dVar 2))) (dPut (dOp aIx (dVar 1) (dVar 5)) (dVar 4) (dVar 5)) dNext))
/-- 0 vat, 1 links, 2 share, 3 left, 4 found, 5 entry: k25 k26 -/
def g_law_known_2 (a_law_drip : ASp) : AS :=
  (dSeq (dPar3 2 3 4 (dCons (dCall a_law_drip (dCons (dVar 0) (dCons (dC (.int 5)) dNil))) (dCons (dLRg2 true (dC (.int 1)) (dCB aLen (dCons (dVar 1) dNil))) (dCons dDctM0 dNil))))
  (dSeq (dWhile (t1_law_known_2 a_law_drip) (b1_law_known_2 a_law_drip))
  (dRet (dVar 4))))
/-- 0 rows, 1 known, 2 links, 3 entry: k24 k25 k26 k27 k28 k29 k30 k31 -/
def g_law_completions : AS :=
  (dRet (dLc (sList (dVar 0)) (gN 2) (dB (dOp (aEq) (dLc (sList (dVar 1)) (gN 3) (dB (dOp (aNe) (dOp aIx (dVar 2) (dVar 3)) (dOp aIx (dVar 1) (dVar 3)))) (dVar 3) [3]) (dLst dNil))) (dVar 2) [2]))
/-- 0 size, 1 known: k25 k26 k27 k28 k29 k30 k31 -/
def g_need_known (a_need_size a_are_known_of : ASp) : AS :=
  (dSeq (dExpr (dCall a_need_size (dCons (dVar 0) dNil)))
  (dIfS (dNot (dB (dCall a_are_known_of (dCons (dVar 0) (dCons (dVar 1) dNil))))) dNever dNext))
/-- 0 size, 1 known: k25 k26 k27 k28 k29 k30 k31 -/
def x_need_known (a_are_known_of : ASp) (ax_need_size : AXp) : XS :=
  fun Xa =>
  (dSeq (dExpr (rCall ax_need_size (dCons (dVar 0) dNil) Xa))
  (dIfS (dNot (dB (dCall a_are_known_of (dCons (dVar 0) (dCons (dVar 1) dNil))))) (xRaise "InvalidKnown" Xa) dNext))
/-- 0 size, 1 known: k25 k28 k30 k31 k74 -/
def g_known_crossing (a_need_known a_crossing_of : ASp) : AS :=
  (dSeq (dExpr (dCall a_need_known (dCons (dVar 0) (dCons (dVar 1) dNil))))
  (dRet (dCall a_crossing_of (dCons (dVar 1) dNil))))
/-- 0 size, 1 known: k25 k28 k30 k31 k74 -/
def x_known_crossing (a_crossing_of : ASp) (ax_need_known : AXp) : XS :=
  fun Xa =>
  (dSeq (dExpr (rCall ax_need_known (dCons (dVar 0) (dCons (dVar 1) dNil)) Xa))
  (dRet (dCall a_crossing_of (dCons (dVar 1) dNil))))
def t1_wall : AT :=
  (dB (dC (.bool true)))
def b1_wall : AS :=
  dNext
/-- 0 k: k26 k57 k58 k59 k60 k61 k69 k70 k71 k72 k79 -/
def g_wall : AS :=
  (dWhile (t1_wall) (b1_wall))
/-- 0 size, 1 known, 2 pair: k26 k27 k28 k29 k30 k31 k74 k78 k82 -/
def g_need_no_crossing (a_need_known a_crossing_of : ASp) : AS :=
  (dSeq (dExpr (dCall a_need_known (dCons (dVar 0) (dCons (dVar 1) dNil))))
  (dSeq (dAsg 2 (dCall a_crossing_of (dCons (dVar 1) dNil)))
  (dIfS (dB (dNotN (dVar 2))) dNever dNext)))
def b1_law_logs : AS :=
  (dIfS (dB (dOp (aEq) (dLc (sRng2 (dCons (dOp (aAdd false) (dVar 5) (dC (.int 1))) (dCons (dVar 2) dNil))) (gN 6) (dB (dOp (aB fun i j => decide (i < j)) (dOp aIx (dVar 4) (dVar 6)) (dVar 5))) (dVar 6) [6]) (dLst dNil))) (dExpr (dMeth aAppend (dVar 3) (dCons (dOp (aAdd false) (dVar 4) (dLst (dCons (dVar 5) dNil))) dNil))) dNext)
def b2_law_logs : AS :=
  (dFor (sRng1 (dCons (dVar 2) dNil)) (gN 5)
  (b1_law_logs))
def b3_law_logs : AS :=
  (dSeq (dAsg 3 (dLstM dNil))
  (dSeq (dFor (sList (dVar 1)) (gN 4)
  (b2_law_logs))
  (dAsg 1 (dVar 3))))
/-- 0 size, 1 found, 2 entry, 3 longer, 4 links, 5 target, 6 one: k26 k27 k29 -/
def g_law_logs : AS :=
  (dSeq (dAsg 1 (dLst (dCons (dLst (dCons (dC (.int 0)) dNil)) dNil)))
  (dSeq (dFor (sRng2 (dCons (dC (.int 1)) (dCons (dVar 0) dNil))) (gN 2)
  (b3_law_logs))
  (dRet (dVar 1))))
def b1_law_logs_2 (a_law_allowed : ASp) : AS :=
  (dExpr (dMeth aExtend (dVar 3) (dCons (dLc (sList (dCall a_law_allowed (dCons (dVar 4) dNil))) (gN 5) dYes (dOp (aAdd false) (dVar 4) (dLst (dCons (dVar 5) dNil))) [5]) dNil)))
def b2_law_logs_2 (a_law_allowed : ASp) : AS :=
  (dSeq (dAsg 3 (dLstM dNil))
  (dSeq (dFor (sList (dVar 1)) (gN 4)
  (b1_law_logs_2 a_law_allowed))
  (dAsg 1 (dVar 3))))
/-- 0 size, 1 found, 2 turn, 3 longer, 4 links, 5 target: k74 k75 k76 -/
def g_law_logs_2 (a_law_allowed : ASp) : AS :=
  (dSeq (dAsg 1 (dLst (dCons (dLst (dCons (dC (.int 0)) dNil)) dNil)))
  (dSeq (dFor (sRng1 (dCons (dOp aSub (dVar 0) (dC (.int 1))) dNil)) (gN 2)
  (b2_law_logs_2 a_law_allowed))
  (dRet (dVar 1))))
/-- 0 size, 1 start, 2 end: k29 k30 k31 k74 k82 -/
def g_need_range_of (a_is_integer : ASp) : AS :=
  (dIfS (dOr (dNot (dB (dCall a_is_integer (dCons (dVar 1) (dCons (dC (.int 0)) (dCons (dOp aSub (dVar 0) (dC (.int 1))) dNil)))))) (dNot (dB (dCall a_is_integer (dCons (dVar 2) (dCons (dC (.int 0)) (dCons (dVar 1) dNil))))))) dNever dNext)
/-- 0 size, 1 start, 2 end: k29 k30 k31 k74 k82 -/
def x_need_range_of (a_is_integer : ASp) : XS :=
  fun Xa =>
  (dIfS (dOr (dNot (dB (dCall a_is_integer (dCons (dVar 1) (dCons (dC (.int 0)) (dCons (dOp aSub (dVar 0) (dC (.int 1))) dNil)))))) (dNot (dB (dCall a_is_integer (dCons (dVar 2) (dCons (dC (.int 0)) (dCons (dVar 1) dNil))))))) (xRaise "InvalidEntry" Xa) dNext)
/-- 0 size, 1 known, 2 start, 3 end, 4 links, 5 entry: k30 k31 k74 k82 -/
def g_sure_entries (a_need_no_crossing a_need_range_of a_possible_links a_link_over : ASp) : AS :=
  (dSeq (dExpr (dCall a_need_no_crossing (dCons (dVar 0) (dCons (dVar 1) dNil))))
  (dSeq (dExpr (dCall a_need_range_of (dCons (dVar 0) (dCons (dVar 2) (dCons (dVar 3) dNil)))))
  (dSeq (dAsg 4 (dCall a_possible_links (dCons (dVar 1) (dCons (dVar 2) (dCons (dVar 3) dNil)))))
  (dRet (dLc (sRng2 (dCons (dVar 3) (dCons (dOp (aAdd false) (dVar 2) (dC (.int 1))) dNil))) (gN 5) (dB (dIsN (dCall a_link_over (dCons (dVar 4) (dCons (dVar 5) dNil))))) (dVar 5) [5])))))
/-- 0 size, 1 known, 2 start, 3 end, 4 links, 5 entry: k29 -/
def g_sure_entries_2 (a_need_no_crossing a_need_range_of a_possible_links a_link_over : ASp) : AS :=
  (dSeq (dExpr (dCall a_need_no_crossing (dCons (dVar 0) (dCons (dVar 1) dNil))))
  (dSeq (dExpr (dCall a_need_range_of (dCons (dVar 0) (dCons (dVar 2) (dCons (dVar 3) dNil)))))
  (dSeq (dAsg 4 (dCall a_possible_links (dCons (dVar 1) (dCons (dVar 2) (dCons (dVar 3) dNil)))))
  (dRet (dLcM (sRng2 (dCons (dVar 3) (dCons (dOp (aAdd false) (dVar 2) (dC (.int 1))) dNil))) (gN 5) (dB (dIsN (dCall a_link_over (dCons (dVar 4) (dCons (dVar 5) dNil))))) (dVar 5) [5])))))
/-- 0 size, 1 known, 2 start, 3 end, 4 links, 5 entry: k30 k31 k74 k82 -/
def x_sure_entries (a_possible_links a_link_over : ASp) (ax_need_no_crossing ax_need_range_of : AXp) : XS :=
  fun Xa =>
  (dSeq (dExpr (rCall ax_need_no_crossing (dCons (dVar 0) (dCons (dVar 1) dNil)) Xa))
  (dSeq (dExpr (rCall ax_need_range_of (dCons (dVar 0) (dCons (dVar 2) (dCons (dVar 3) dNil))) Xa))
  (dSeq (dAsg 4 (dCall a_possible_links (dCons (dVar 1) (dCons (dVar 2) (dCons (dVar 3) dNil)))))
  (dRet (dLc (sRng2 (dCons (dVar 3) (dCons (dOp (aAdd false) (dVar 2) (dC (.int 1))) dNil))) (gN 5) (dB (dIsN (dCall a_link_over (dCons (dVar 4) (dCons (dVar 5) dNil))))) (dVar 5) [5])))))
/-- 0 size, 1 known, 2 start, 3 end, 4 links, 5 entry: k29 -/
def x_sure_entries_2 (a_possible_links a_link_over : ASp) (ax_need_no_crossing ax_need_range_of : AXp) : XS :=
  fun Xa =>
  (dSeq (dExpr (rCall ax_need_no_crossing (dCons (dVar 0) (dCons (dVar 1) dNil)) Xa))
  (dSeq (dExpr (rCall ax_need_range_of (dCons (dVar 0) (dCons (dVar 2) (dCons (dVar 3) dNil))) Xa))
  (dSeq (dAsg 4 (dCall a_possible_links (dCons (dVar 1) (dCons (dVar 2) (dCons (dVar 3) dNil)))))
  (dRet (dLcM (sRng2 (dCons (dVar 3) (dCons (dOp (aAdd false) (dVar 2) (dC (.int 1))) dNil))) (gN 5) (dB (dIsN (dCall a_link_over (dCons (dVar 4) (dCons (dVar 5) dNil))))) (dVar 5) [5])))))
/-- 0 known, 1 start, 2 end, 3 found, 4 entry, 5 target: k29 k30 k31 k74 k82 -/
def g_possible_links (a_lowest_target : ASp) : AS :=
  (dSeq (dAsg 3 (dLc (sRng2 (dCons (dOp (aAdd false) (dVar 2) (dC (.int 1))) (dCons (dOp (aAdd false) (dVar 1) (dC (.int 1))) dNil))) (gN 4) dYes (dTup (dCons (dVar 4) (dCons (dCall a_lowest_target (dCons (dVar 0) (dCons (dVar 4) (dCons (dVar 2) dNil)))) dNil))) [4]))
  (dRet (dLc (sList (dVar 3)) (gT 2 (gN1 (gN 4) (gN1 (gN 5) gN0))) (dB (dNotN (dVar 5))) (dTup (dCons (dVar 4) (dCons (dVar 5) dNil))) [4, 5])))
def b1_link_over : AS :=
  (dIfS (dB (dChain (aB fun i j => decide (i < j)) (aB fun i j => decide (i < j)) (dVar 3) (dVar 1) (dVar 2))) (dRet (dTup (dCons (dVar 2) (dCons (dVar 3) dNil)))) dNext)
/-- 0 links, 1 entry, 2 upper, 3 target: k29 k30 k31 k74 k82 -/
def g_link_over : AS :=
  (dSeq (dFor (sList (dVar 0)) (gT 2 (gN1 (gN 2) (gN1 (gN 3) gN0)))
  (b1_link_over))
  (dRet (dC .none)))
/-- 0 size, 1 value: k32 k33 k34 k36 k37 k38 k75 k78 k81 -/
def g_is_change (a_is_integer : ASp) : AS :=
  (dSeq (dIfS (dOr (dNot (dB (dIsi "tuple" (dVar 1)))) (dOr (dB (dOp (aNe) (dCB aLen (dCons (dVar 1) dNil)) (dC (.int 2)))) (dNot (dB (dCall a_is_integer (dCons (dOp aIx (dVar 1) (dC (.int 0))) (dCons (dC (.int 1)) (dCons (dOp aSub (dVar 0) (dC (.int 1))) dNil)))))))) (dRet (dC (.bool false))) dNext)
  (dRet (dCall a_is_integer (dCons (dOp aIx (dVar 1) (dC (.int 1))) (dCons (dC (.int 0)) (dCons (dOp aSub (dOp aIx (dVar 1) (dC (.int 0))) (dC (.int 1))) dNil))))))
def b1_after_changes (a_need_log a_is_change a_least_crossing : ASp) : AS :=
  (dSeq (dIfS (dNot (dB (dCall a_is_change (dCons (dCB aLen (dCons (dVar 0) dNil)) (dCons (dVar 4) dNil))))) dNever dNext)
  (dSeq (dAsgG (gT 2 (gN1 (gN 5) (gN1 (gN 6) gN0))) (dVar 4))
  (dSeq (dSetIx (dVar 6) (dVar 2) (dVar 5))
  (dIfS (dB (dNotN (dCall a_least_crossing (dCons (dVar 2) dNil)))) dNever dNext))))
/-- 0 links, 1 changes, 2 found, 3 index, 4 change, 5 entry, 6 target: k36 k37 k38 k75 -/
def g_after_changes (a_need_log a_is_change a_least_crossing : ASp) : AS :=
  (dSeq (dExpr (dCall a_need_log (dCons (dVar 0) dNil)))
  (dSeq (dAsg 2 (dCB (aList true) (dCons (dVar 0) dNil)))
  (dSeq (dFor (sEnum (dCons (dVar 1) dNil)) (gT 2 (gN1 (gN 3) (gN1 (gN 4) gN0)))
  (b1_after_changes a_need_log a_is_change a_least_crossing))
  (dRet (dFrz (dVar 2))))))
def b1_after_changes_2 (a_need_log a_is_change a_least_crossing : ASp) : AS :=
  (dSeq (dIfS (dNot (dB (dCall a_is_change (dCons (dCB aLen (dCons (dVar 0) dNil)) (dCons (dVar 4) dNil))))) dNever dNext)
  (dSeq (dAsgG (gT 2 (gN1 (gN 5) (gN1 (gN 6) gN0))) (dVar 4))
  (dSeq (dSetIx (dVar 6) (dVar 2) (dVar 5))
  (dIfS (dB (dNotN (dCall a_least_crossing (dCons (dVar 2) dNil)))) dNever dNext))))
/-- 0 links, 1 changes, 2 found, 3 index, 4 change, 5 entry, 6 target: k32 -/
def g_after_changes_2 (a_need_log a_is_change a_least_crossing : ASp) : AS :=
  (dSeq (dExpr (dCall a_need_log (dCons (dVar 0) dNil)))
  (dSeq (dAsg 2 (dCB (aList true) (dCons (dVar 0) dNil)))
  (dSeq (dFor (sEnum (dCons (dVar 1) dNil)) (gT 2 (gN1 (gN 3) (gN1 (gN 4) gN0)))
  (b1_after_changes_2 a_need_log a_is_change a_least_crossing))
  (dRet (dVar 2)))))
/-- 0 script, 1 k, 2 cell: k32 k33 k34 k35 k36 k37 k38 k39 k40 k41 k42 k43 k44 k45 k46 k47 k48 k49 -/
def g_law_pot : AS :=
  (dSeq (dAsg 2 (dC (.int 0)))
  (dSeq (dIfS (dB (dOp (aB fun i j => decide (i < j)) (dVar 1) (dCB aLen (dCons (dVar 0) dNil)))) (dAsg 2 (dOp aIx (dVar 0) (dVar 1))) dNext)
  (dRet (dLstM (dCons (dCB aMax (dCons (dC (.int 0)) (dCons (dOp aSub (dVar 2) (dOp aPow (dC (.int 10)) (dC (.int 18)))) dNil))) (dCons (dOp (aAdd false) (dOp aMod (dVar 2) (dOp (aAdd false) (dOp aPow (dC (.int 10)) (dC (.int 38))) (dC (.int 133)))) (dOp (aMul false) (dC (.int 999307)) (dVar 1))) (dCons (dC (.int 0)) dNil)))))))
/-- 0 pot, 1 many, 2 found, 3 mixed: k32 k33 k34 k35 k36 k37 k38 k39 k40 k41 k42 k43 k44 k45 k46 k47 k48 k49 -/
def g_law_take : AS :=
  (dSeq (dIfS (dB (dOp (aB fun i j => decide (j < i)) (dOp aIx (dVar 0) (dC (.int 0))) (dC (.int 0)))) (dSeq (dAsg 2 (dOp aMod (dOp aIx (dVar 0) (dC (.int 0))) (dVar 1)))
  (dSeq (dSetIx (dOp aDiv (dOp aIx (dVar 0) (dC (.int 0))) (dVar 1)) (dVar 0) (dC (.int 0)))
  (dRet (dVar 2)))) dNext)
  (dSeq (dSetIx (dOp (aAdd false) (dOp aIx (dVar 0) (dC (.int 2))) (dC (.int 1))) (dVar 0) (dC (.int 2)))
  (dSeq (dAsg 3 (dOp aMod (dOp aPow (dOp (aAdd false) (dOp aIx (dVar 0) (dC (.int 1))) (dOp (aMul false) (dC (.int 8683317618811886495518194401)) (dOp aIx (dVar 0) (dC (.int 2))))) (dC (.int 3))) (dOp (aAdd false) (dOp aPow (dC (.int 10)) (dC (.int 41))) (dC (.int 37)))))
  (dSeq (dAsg 3 (dOp aMod (dOp aPow (dOp (aAdd false) (dVar 3) (dOp (aMul false) (dC (.int 295232799039604140847618609643520000001)) (dOp aIx (dVar 0) (dC (.int 2))))) (dC (.int 3))) (dOp (aAdd false) (dOp aPow (dC (.int 10)) (dC (.int 40))) (dC (.int 121)))))
  (dRet (dOp aMod (dOp aDiv (dVar 3) (dC (.int 1000003))) (dVar 1)))))))
/-- 0 bag, 1 many, 2 found, 3 mark: k57 k58 k59 k60 k61 k73 k74 k75 k76 k77 k78 -/
def g_law_take_2 : AS :=
  (dSeq (dIfS (dB (dOp (aB fun i j => decide (j < i)) (dOp aIx (dVar 0) (dC (.int 0))) (dC (.int 0)))) (dSeq (dAsg 2 (dOp aMod (dOp aIx (dVar 0) (dC (.int 0))) (dVar 1)))
  (dSeq (dSetIx (dOp aDiv (dOp aIx (dVar 0) (dC (.int 0))) (dVar 1)) (dVar 0) (dC (.int 0)))
  (dRet (dVar 2)))) dNext)
  (dSeq (dSetIx (dOp (aAdd false) (dOp aIx (dVar 0) (dC (.int 2))) (dC (.int 1))) (dVar 0) (dC (.int 2)))
  (dSeq (dAsg 3 (dOp (aAdd false) (dOp (aMul false) (dOp (aAdd false) (dOp aIx (dVar 0) (dC (.int 1))) (dC (.int 1))) (dOp (aAdd false) (dOp (aMul false) (dC (.int 30011)) (dOp aIx (dVar 0) (dC (.int 2)))) (dC (.int 7)))) (dOp (aMul false) (dOp (aMul false) (dC (.int 104729)) (dOp aIx (dVar 0) (dC (.int 2)))) (dOp aIx (dVar 0) (dC (.int 2))))))
  (dSeq (dAsg 3 (dOp aMod (dOp (aMul false) (dVar 3) (dVar 3)) (dOp (aAdd false) (dOp aPow (dC (.int 10)) (dC (.int 41))) (dC (.int 37)))))
  (dRet (dOp aMod (dOp aDiv (dOp aMod (dOp (aMul false) (dVar 3) (dOp (aAdd false) (dVar 3) (dC (.int 97)))) (dOp (aAdd false) (dOp aPow (dC (.int 10)) (dC (.int 40))) (dC (.int 4323)))) (dC (.int 100003))) (dVar 1)))))))
/-- 0 bag, 1 many, 2 found, 3 mark: k79 k80 k81 k82 k83 -/
def g_law_take_3 : AS :=
  (dSeq (dIfS (dB (dOp (aB fun i j => decide (j < i)) (dOp aIx (dVar 0) (dC (.int 0))) (dC (.int 0)))) (dSeq (dAsg 2 (dOp aMod (dCB aInt (dCons (dOp aIx (dVar 0) (dC (.int 0))) dNil)) (dVar 1)))
  (dSeq (dSetIx (dOp aDiv (dOp aIx (dVar 0) (dC (.int 0))) (dVar 1)) (dVar 0) (dC (.int 0)))
  (dRet (dVar 2)))) dNext)
  (dSeq (dSetIx (dOp (aAdd false) (dOp aIx (dVar 0) (dC (.int 2))) (dC (.int 1))) (dVar 0) (dC (.int 2)))
  (dSeq (dAsg 3 (dOp (aAdd false) (dOp (aMul false) (dOp (aAdd false) (dOp aIx (dVar 0) (dC (.int 1))) (dC (.int 1))) (dOp (aAdd false) (dOp (aMul false) (dC (.int 30011)) (dOp aIx (dVar 0) (dC (.int 2)))) (dC (.int 7)))) (dOp (aMul false) (dOp (aMul false) (dC (.int 104729)) (dOp aIx (dVar 0) (dC (.int 2)))) (dOp aIx (dVar 0) (dC (.int 2))))))
  (dSeq (dAsg 3 (dOp aMod (dCB aInt (dCons (dOp (aMul false) (dVar 3) (dVar 3)) dNil)) (dOp (aAdd false) (dOp aPow (dC (.int 10)) (dC (.int 41))) (dC (.int 37)))))
  (dSeq (dAsg 3 (dOp aMod (dCB aInt (dCons (dOp (aMul false) (dVar 3) (dOp (aAdd false) (dVar 3) (dC (.int 97)))) dNil)) (dOp (aAdd false) (dOp aPow (dC (.int 10)) (dC (.int 40))) (dC (.int 4323)))))
  (dRet (dOp aMod (dCB aInt (dCons (dOp aDiv (dVar 3) (dC (.int 100003))) dNil)) (dVar 1))))))))
/-- 0 pot, 1 things, 2 many, 3 left, 4 k: k32 k33 k34 k35 k36 k37 k38 k39 k40 k41 k42 k43 k44 k45 k46 k47 k48 k49 -/
def g_law_some (a_law_take : ASp) : AS :=
  (dSeq (dAsg 3 (dCB (aList true) (dCons (dVar 1) dNil)))
  (dRet (dLc (sRng1 (dCons (dVar 2) dNil)) (gN 4) dYes (dMeth aPopAt (dVar 3) (dCons (dCall a_law_take (dCons (dVar 0) (dCons (dCB aLen (dCons (dVar 3) dNil)) dNil))) dNil)) [4])))
def b1_law_crosses : AS :=
  (dIfS (dB (dOp (aNe) (dLc (sList (dSl false (dVar 0) (dPart (dOp (aAdd false) (dVar 1) (dC (.int 1)))) dNoPart)) (gN 2) (dB (dChain (aB fun i j => decide (i < j)) (aB fun i j => decide (i < j)) (dOp aIx (dVar 0) (dVar 1)) (dVar 2) (dVar 1))) (dVar 2) [2]) (dLst dNil))) (dRet (dC (.bool true))) dNext)
/-- 0 links, 1 entry, 2 link: k32 k33 k34 k35 k37 k39 k40 k41 k43 k45 k47 -/
def g_law_crosses : AS :=
  (dSeq (dFor (sRng1 (dCons (dCB aLen (dCons (dVar 0) dNil)) dNil)) (gN 1)
  (b1_law_crosses))
  (dRet (dC (.bool false))))
/-- 0 links, 1 other: k33 k34 k35 k36 k37 k38 k75 k78 k81 -/
def g_need_both (a_need_log : ASp) : AS :=
  (dSeq (dExpr (dCall a_need_log (dCons (dVar 0) dNil)))
  (dSeq (dExpr (dCall a_need_log (dCons (dVar 1) dNil)))
  (dIfS (dB (dOp (aNe) (dCB aLen (dCons (dVar 0) dNil)) (dCB aLen (dCons (dVar 1) dNil)))) dNever dNext)))
/-- 0 links, 1 other: k33 k34 k35 k36 k37 k38 k75 k78 k81 -/
def x_need_both (ax_need_log : AXp) : XS :=
  fun Xa =>
  (dSeq (dExpr (rCall ax_need_log (dCons (dVar 0) dNil) Xa))
  (dSeq (dExpr (rCall ax_need_log (dCons (dVar 1) dNil) Xa))
  (dIfS (dB (dOp (aNe) (dCB aLen (dCons (dVar 0) dNil)) (dCB aLen (dCons (dVar 1) dNil)))) (xRaise "Different" Xa) dNext)))
/-- 0 links, 1 other, 2 entry: k33 k34 k35 k36 k37 k38 k75 k78 k81 -/
def g_different_entries : AS :=
  (dRet (dLc (sRng1 (dCons (dCB aLen (dCons (dVar 0) dNil)) dNil)) (gN 2) (dB (dOp (aNe) (dOp aIx (dVar 0) (dVar 2)) (dOp aIx (dVar 1) (dVar 2)))) (dVar 2) [2]))
/-- 0 links, 1 other, 2 entries, 3 order, 4 entry: k34 k36 k37 k38 k75 k78 k81 -/
def g_changes_between (a_need_both a_different_entries : ASp) : AS :=
  (dSeq (dExpr (dCall a_need_both (dCons (dVar 0) (dCons (dVar 1) dNil))))
  (dSeq (dAsg 2 (dCall a_different_entries (dCons (dVar 0) (dCons (dVar 1) dNil))))
  (dSeq (dAsg 3 (dLcM (sList (dVar 2)) (gN 4) (dB (dOp (aB fun i j => decide (i < j)) (dOp aIx (dVar 0) (dVar 4)) (dOp aIx (dVar 1) (dVar 4)))) (dVar 4) [4]))
  (dSeq (dAug 3 aExt2 (dLc (sList (dRev false (dVar 2))) (gN 4) (dB (dOp (aB fun i j => decide (j < i)) (dOp aIx (dVar 0) (dVar 4)) (dOp aIx (dVar 1) (dVar 4)))) (dVar 4) [4]))
  (dRet (dLc (sList (dVar 3)) (gN 4) dYes (dTup (dCons (dVar 4) (dCons (dOp aIx (dVar 1) (dVar 4)) dNil))) [4]))))))
/-- 0 links, 1 other, 2 entries, 3 order, 4 entry: k33 -/
def g_changes_between_2 (a_need_both a_different_entries : ASp) : AS :=
  (dSeq (dExpr (dCall a_need_both (dCons (dVar 0) (dCons (dVar 1) dNil))))
  (dSeq (dAsg 2 (dCall a_different_entries (dCons (dVar 0) (dCons (dVar 1) dNil))))
  (dSeq (dAsg 3 (dLcM (sList (dVar 2)) (gN 4) (dB (dOp (aB fun i j => decide (i < j)) (dOp aIx (dVar 0) (dVar 4)) (dOp aIx (dVar 1) (dVar 4)))) (dVar 4) [4]))
  (dSeq (dAug 3 aExt2 (dLc (sList (dRev false (dVar 2))) (gN 4) (dB (dOp (aB fun i j => decide (j < i)) (dOp aIx (dVar 0) (dVar 4)) (dOp aIx (dVar 1) (dVar 4)))) (dVar 4) [4]))
  (dRet (dLcM (sList (dVar 3)) (gN 4) dYes (dTup (dCons (dVar 4) (dCons (dOp aIx (dVar 1) (dVar 4)) dNil))) [4]))))))
/-- 0 links, 1 other, 2 entries, 3 order, 4 entry: k34 k36 k37 k38 k75 k78 k81 -/
def x_changes_between (a_different_entries : ASp) (ax_need_both : AXp) : XS :=
  fun Xa =>
  (dSeq (dExpr (rCall ax_need_both (dCons (dVar 0) (dCons (dVar 1) dNil)) Xa))
  (dSeq (dAsg 2 (dCall a_different_entries (dCons (dVar 0) (dCons (dVar 1) dNil))))
  (dSeq (dAsg 3 (dLcM (sList (dVar 2)) (gN 4) (dB (dOp (aB fun i j => decide (i < j)) (dOp aIx (dVar 0) (dVar 4)) (dOp aIx (dVar 1) (dVar 4)))) (dVar 4) [4]))
  (dSeq (dAug 3 aExt2 (dLc (sList (dRev false (dVar 2))) (gN 4) (dB (dOp (aB fun i j => decide (j < i)) (dOp aIx (dVar 0) (dVar 4)) (dOp aIx (dVar 1) (dVar 4)))) (dVar 4) [4]))
  (dRet (dLc (sList (dVar 3)) (gN 4) dYes (dTup (dCons (dVar 4) (dCons (dOp aIx (dVar 1) (dVar 4)) dNil))) [4]))))))
/-- 0 links, 1 other, 2 entries, 3 order, 4 entry: k33 -/
def x_changes_between_2 (a_different_entries : ASp) (ax_need_both : AXp) : XS :=
  fun Xa =>
  (dSeq (dExpr (rCall ax_need_both (dCons (dVar 0) (dCons (dVar 1) dNil)) Xa))
  (dSeq (dAsg 2 (dCall a_different_entries (dCons (dVar 0) (dCons (dVar 1) dNil))))
  (dSeq (dAsg 3 (dLcM (sList (dVar 2)) (gN 4) (dB (dOp (aB fun i j => decide (i < j)) (dOp aIx (dVar 0) (dVar 4)) (dOp aIx (dVar 1) (dVar 4)))) (dVar 4) [4]))
  (dSeq (dAug 3 aExt2 (dLc (sList (dRev false (dVar 2))) (gN 4) (dB (dOp (aB fun i j => decide (j < i)) (dOp aIx (dVar 0) (dVar 4)) (dOp aIx (dVar 1) (dVar 4)))) (dVar 4) [4]))
  (dRet (dLcM (sList (dVar 3)) (gN 4) dYes (dTup (dCons (dVar 4) (dCons (dOp aIx (dVar 1) (dVar 4)) dNil))) [4]))))))
def b1_is_direct (a_need_both a_is_change a_different_entries a_least_crossing : ASp) : AS :=
  (dSeq (dSetIx (dVar 5) (dVar 3) (dVar 4))
  (dIfS (dOr (dB (dOp (aNe) (dVar 5) (dOp aIx (dVar 1) (dVar 4)))) (dB (dNotN (dCall a_least_crossing (dCons (dVar 3) dNil))))) (dRet (dC (.bool false))) dNext))
/-- 0 links, 1 other, 2 value, 3 found, 4 entry, 5 target, 6 change: k33 k34 k36 k37 k38 k75 k78 k81 -/
def g_is_direct (a_need_both a_is_change a_different_entries a_least_crossing : ASp) : AS :=
  (dSeq (dExpr (dCall a_need_both (dCons (dVar 0) (dCons (dVar 1) dNil))))
  (dSeq (dIfS (dOr (dNot (dB (dIsi "list" (dVar 2)))) (dNot (dB (dCB aAll (dCons (dLc (sList (dVar 2)) (gN 6) dYes (dCall a_is_change (dCons (dCB aLen (dCons (dVar 0) dNil)) (dCons (dVar 6) dNil))) [6]) dNil))))) (dRet (dC (.bool false))) dNext)
  (dSeq (dIfS (dB (dOp (aNe) (dCB (aSortedI false) (dCons (dLc (sList (dVar 2)) (gT 2 (gN1 (gN 4) (gN1 (gN 5) gN0))) dYes (dVar 4) [4, 5]) dNil)) (dCall a_different_entries (dCons (dVar 0) (dCons (dVar 1) dNil))))) (dRet (dC (.bool false))) dNext)
  (dSeq (dAsg 3 (dCB (aList true) (dCons (dVar 0) dNil)))
  (dSeq (dFor (sList (dVar 2)) (gT 2 (gN1 (gN 4) (gN1 (gN 5) gN0)))
  (b1_is_direct a_need_both a_is_change a_different_entries a_least_crossing))
  (dRet (dC (.bool true))))))))
def b1_x_is_direct (a_is_change a_different_entries a_least_crossing : ASp) (ax_need_both : AXp) : AS :=
  (dSeq (dSetIx (dVar 5) (dVar 3) (dVar 4))
  (dIfS (dOr (dB (dOp (aNe) (dVar 5) (dOp aIx (dVar 1) (dVar 4)))) (dB (dNotN (dCall a_least_crossing (dCons (dVar 3) dNil))))) (dRet (dC (.bool false))) dNext))
/-- 0 links, 1 other, 2 value, 3 found, 4 entry, 5 target, 6 change: k33 k34 k36 k37 k38 k75 k78 k81 -/
def x_is_direct (a_is_change a_different_entries a_least_crossing : ASp) (ax_need_both : AXp) : XS :=
  fun Xa =>
  (dSeq (dExpr (rCall ax_need_both (dCons (dVar 0) (dCons (dVar 1) dNil)) Xa))
  (dSeq (dIfS (dOr (dNot (dB (dIsi "list" (dVar 2)))) (dNot (dB (dCB aAll (dCons (dLc (sList (dVar 2)) (gN 6) dYes (dCall a_is_change (dCons (dCB aLen (dCons (dVar 0) dNil)) (dCons (dVar 6) dNil))) [6]) dNil))))) (dRet (dC (.bool false))) dNext)
  (dSeq (dIfS (dB (dOp (aNe) (dCB (aSortedI false) (dCons (dLc (sList (dVar 2)) (gT 2 (gN1 (gN 4) (gN1 (gN 5) gN0))) dYes (dVar 4) [4, 5]) dNil)) (dCall a_different_entries (dCons (dVar 0) (dCons (dVar 1) dNil))))) (dRet (dC (.bool false))) dNext)
  (dSeq (dAsg 3 (dCB (aList true) (dCons (dVar 0) dNil)))
  (dSeq (dFor (sList (dVar 2)) (gT 2 (gN1 (gN 4) (gN1 (gN 5) gN0)))
  (b1_x_is_direct a_is_change a_different_entries a_least_crossing ax_need_both))
  (dRet (dC (.bool true))))))))
def b1_law_near (a_law_take a_law_crosses : ASp) : AS :=
  (dSeq (dAsg 5 (dOp (aAdd false) (dC (.int 1)) (dCall a_law_take (dCons (dVar 0) (dCons (dOp aSub (dCB aLen (dCons (dVar 1) dNil)) (dC (.int 1))) dNil)))))
  (dSeq (dPar2 6 7 (dCons (dCall a_law_take (dCons (dVar 0) (dCons (dVar 5) dNil))) (dCons (dOp aIx (dVar 3) (dVar 5)) dNil)))
  (dSeq (dSetIx (dVar 6) (dVar 3) (dVar 5))
  (dIfS (dB (dCall a_law_crosses (dCons (dVar 3) dNil))) (dSetIx (dVar 7) (dVar 3) (dVar 5)) dNext))))
/-- 0 pot, 1 links, 2 many, 3 found, 4 turn, 5 entry, 6 target, 7 kept: k33 k34 k35 k37 k39 k40 k41 k43 -/
def g_law_near (a_law_take a_law_crosses : ASp) : AS :=
  (dSeq (dAsg 3 (dCB (aList true) (dCons (dVar 1) dNil)))
  (dSeq (dFor (sRng1 (dCons (dIf (dB (dOp (aB fun i j => decide (j < i)) (dCB aLen (dCons (dVar 1) dNil)) (dC (.int 2)))) (dVar 2) (dC (.int 0))) dNil)) (gN 4)
  (b1_law_near a_law_take a_law_crosses))
  (dRet (dFrz (dVar 3)))))
def b1_law_is_direct (a_law_crosses : ASp) : AS :=
  (dSeq (dIfS (dOr (dNot (dB (dIsi "tuple" (dVar 5)))) (dB (dOp (aNe) (dCB aLen (dCons (dVar 5) dNil)) (dC (.int 2))))) (dRet (dC (.bool false))) dNext)
  (dSeq (dAsgG (gT 2 (gN1 (gN 6) (gN1 (gN 7) gN0))) (dVar 5))
  (dSeq (dIfS (dB (dOp (aNe) (dLc (sTup (dVar 5)) (gN 8) (dOr (dNot (dB (dIsi "int" (dVar 8)))) (dB (dIsi "bool" (dVar 8)))) (dC (.int 1)) [8]) (dLst dNil))) (dRet (dC (.bool false))) dNext)
  (dSeq (dIfS (dOr (dNot (dB (dChain (aB fun i j => decide (i ≤ j)) (aB fun i j => decide (i < j)) (dC (.int 1)) (dVar 6) (dCB aLen (dCons (dVar 0) dNil))))) (dNot (dB (dChain (aB fun i j => decide (i ≤ j)) (aB fun i j => decide (i < j)) (dC (.int 0)) (dVar 7) (dVar 6))))) (dRet (dC (.bool false))) dNext)
  (dSeq (dIfS (dOr (dB (dOp (aEq) (dOp aIx (dVar 0) (dVar 6)) (dOp aIx (dVar 1) (dVar 6)))) (dOr (dB (dOp (aIn false) (dVar 6) (dVar 4))) (dB (dOp (aNe) (dVar 7) (dOp aIx (dVar 1) (dVar 6)))))) (dRet (dC (.bool false))) dNext)
  (dSeq (dExpr (dMeth aAppend (dVar 4) (dCons (dVar 6) dNil)))
  (dSeq (dSetIx (dVar 7) (dVar 3) (dVar 6))
  (dIfS (dB (dCall a_law_crosses (dCons (dVar 3) dNil))) (dRet (dC (.bool false))) dNext))))))))
/-- 0 links, 1 other, 2 value, 3 found, 4 seen, 5 change, 6 entry, 7 target, 8 one: k33 k34 k35 -/
def g_law_is_direct (a_law_crosses : ASp) : AS :=
  (dSeq (dIfS (dNot (dB (dIsi "list" (dVar 2)))) (dRet (dC (.bool false))) dNext)
  (dSeq (dPar2 3 4 (dCons (dCB (aList true) (dCons (dVar 0) dNil)) (dCons (dLstM dNil) dNil)))
  (dSeq (dFor (sList (dVar 2)) (gN 5)
  (b1_law_is_direct a_law_crosses))
  (dRet (dOp (aEq) (dVar 3) (dVar 1))))))
/-- 0 entry, 1 link, 2 other, 3 other_link: k35 k36 k37 k38 k75 k81 -/
def g_do_cross : AS :=
  (dSeq (dIfS (dB (dOp (aB fun i j => decide (i < j)) (dVar 0) (dVar 2))) (dRet (dChain (aB fun i j => decide (i < j)) (aB fun i j => decide (i < j)) (dVar 1) (dVar 3) (dVar 0))) dNext)
  (dRet (dChain (aB fun i j => decide (i < j)) (aB fun i j => decide (i < j)) (dVar 3) (dVar 1) (dVar 2))))
def b1_orders_between (a_need_both a_different_entries a_do_cross : ASp) : AS :=
  (dIfS (dAnd (dB (dOp (aNe) (dVar 4) (dVar 5))) (dB (dCall a_do_cross (dCons (dVar 5) (dCons (dOp aIx (dVar 1) (dVar 5)) (dCons (dVar 4) (dCons (dOp aIx (dVar 0) (dVar 4)) dNil))))))) (dExpr (dMeth aAppend (dVar 3) (dCons (dTup (dCons (dVar 4) (dCons (dVar 5) dNil))) dNil))) dNext)
def b2_orders_between (a_need_both a_different_entries a_do_cross : ASp) : AS :=
  (dFor (sList (dVar 2)) (gN 5)
  (b1_orders_between a_need_both a_different_entries a_do_cross))
/-- 0 links, 1 other, 2 entries, 3 found, 4 early, 5 late: k36 k37 k38 k75 k81 -/
def g_orders_between (a_need_both a_different_entries a_do_cross : ASp) : AS :=
  (dSeq (dExpr (dCall a_need_both (dCons (dVar 0) (dCons (dVar 1) dNil))))
  (dSeq (dAsg 2 (dCall a_different_entries (dCons (dVar 0) (dCons (dVar 1) dNil))))
  (dSeq (dAsg 3 (dLstM dNil))
  (dSeq (dFor (sList (dVar 2)) (gN 4)
  (b2_orders_between a_need_both a_different_entries a_do_cross))
  (dRet (dFrz (dVar 3)))))))
def b1_orders_between_2 (a_need_both a_different_entries a_do_cross : ASp) : AS :=
  (dIfS (dAnd (dB (dOp (aNe) (dVar 4) (dVar 5))) (dB (dCall a_do_cross (dCons (dVar 5) (dCons (dOp aIx (dVar 1) (dVar 5)) (dCons (dVar 4) (dCons (dOp aIx (dVar 0) (dVar 4)) dNil))))))) (dExpr (dMeth aAppend (dVar 3) (dCons (dTup (dCons (dVar 4) (dCons (dVar 5) dNil))) dNil))) dNext)
def b2_orders_between_2 (a_need_both a_different_entries a_do_cross : ASp) : AS :=
  (dFor (sList (dVar 2)) (gN 5)
  (b1_orders_between_2 a_need_both a_different_entries a_do_cross))
/-- 0 links, 1 other, 2 entries, 3 found, 4 early, 5 late: k35 -/
def g_orders_between_2 (a_need_both a_different_entries a_do_cross : ASp) : AS :=
  (dSeq (dExpr (dCall a_need_both (dCons (dVar 0) (dCons (dVar 1) dNil))))
  (dSeq (dAsg 2 (dCall a_different_entries (dCons (dVar 0) (dCons (dVar 1) dNil))))
  (dSeq (dAsg 3 (dLstM dNil))
  (dSeq (dFor (sList (dVar 2)) (gN 4)
  (b2_orders_between_2 a_need_both a_different_entries a_do_cross))
  (dRet (dVar 3))))))
def b1_x_orders_between (a_different_entries a_do_cross : ASp) (ax_need_both : AXp) : AS :=
  (dIfS (dAnd (dB (dOp (aNe) (dVar 4) (dVar 5))) (dB (dCall a_do_cross (dCons (dVar 5) (dCons (dOp aIx (dVar 1) (dVar 5)) (dCons (dVar 4) (dCons (dOp aIx (dVar 0) (dVar 4)) dNil))))))) (dExpr (dMeth aAppend (dVar 3) (dCons (dTup (dCons (dVar 4) (dCons (dVar 5) dNil))) dNil))) dNext)
def b2_x_orders_between (a_different_entries a_do_cross : ASp) (ax_need_both : AXp) : AS :=
  (dFor (sList (dVar 2)) (gN 5)
  (b1_x_orders_between a_different_entries a_do_cross ax_need_both))
/-- 0 links, 1 other, 2 entries, 3 found, 4 early, 5 late: k36 k37 k38 k75 k81 -/
def x_orders_between (a_different_entries a_do_cross : ASp) (ax_need_both : AXp) : XS :=
  fun Xa =>
  (dSeq (dExpr (rCall ax_need_both (dCons (dVar 0) (dCons (dVar 1) dNil)) Xa))
  (dSeq (dAsg 2 (dCall a_different_entries (dCons (dVar 0) (dCons (dVar 1) dNil))))
  (dSeq (dAsg 3 (dLstM dNil))
  (dSeq (dFor (sList (dVar 2)) (gN 4)
  (b2_x_orders_between a_different_entries a_do_cross ax_need_both))
  (dRet (dFrz (dVar 3)))))))
def b1_x_orders_between_2 (a_different_entries a_do_cross : ASp) (ax_need_both : AXp) : AS :=
  (dIfS (dAnd (dB (dOp (aNe) (dVar 4) (dVar 5))) (dB (dCall a_do_cross (dCons (dVar 5) (dCons (dOp aIx (dVar 1) (dVar 5)) (dCons (dVar 4) (dCons (dOp aIx (dVar 0) (dVar 4)) dNil))))))) (dExpr (dMeth aAppend (dVar 3) (dCons (dTup (dCons (dVar 4) (dCons (dVar 5) dNil))) dNil))) dNext)
def b2_x_orders_between_2 (a_different_entries a_do_cross : ASp) (ax_need_both : AXp) : AS :=
  (dFor (sList (dVar 2)) (gN 5)
  (b1_x_orders_between_2 a_different_entries a_do_cross ax_need_both))
/-- 0 links, 1 other, 2 entries, 3 found, 4 early, 5 late: k35 -/
def x_orders_between_2 (a_different_entries a_do_cross : ASp) (ax_need_both : AXp) : XS :=
  fun Xa =>
  (dSeq (dExpr (rCall ax_need_both (dCons (dVar 0) (dCons (dVar 1) dNil)) Xa))
  (dSeq (dAsg 2 (dCall a_different_entries (dCons (dVar 0) (dCons (dVar 1) dNil))))
  (dSeq (dAsg 3 (dLstM dNil))
  (dSeq (dFor (sList (dVar 2)) (gN 4)
  (b2_x_orders_between_2 a_different_entries a_do_cross ax_need_both))
  (dRet (dVar 3))))))
/-- 0 pot, 1 links, 2 size, 3 at, 4 found: k36 k42 k48 -/
def g_law_no_logs (a_law_take : ASp) : AS :=
  (dSeq (dPar2 2 3 (dCons (dCB aLen (dCons (dVar 1) dNil)) (dCons (dCall a_law_take (dCons (dVar 0) (dCons (dCB aLen (dCons (dVar 1) dNil)) dNil))) dNil)))
  (dSeq (dAsg 4 (dLstM (dCons (dC .none) (dCons (dC (.int 0)) (dCons (dC (.str "")) (dCons (dC (.str "0 0")) (dCons (dTup dNil) (dCons (dTup (dCons (dC (.int 0)) dNil)) (dCons (dC (.dict [])) (dCons (dLst dNil) (dCons (dLst (dCons (dC (.int 1)) dNil)) (dCons (dLst (dCons (dC .none) dNil)) (dCons (dLst (dCons (dC (.bool true)) dNil)) (dCons (dLst (dCons (dC (.bool false)) dNil)) (dCons (dLst (dCons (dC (.int 0)) (dCons (dC (.int 1)) dNil))) (dCons (dLst (dCons (dC (.int 0)) (dCons (dUn aNeg (dC (.int 1))) dNil))) (dCons (dLst (dCons (dC (.int 0)) (dCons (dC (.int 0)) (dCons (dC (.int 2)) dNil)))) (dCons (dLst (dCons (dLst (dCons (dC (.int 0)) dNil)) dNil)) dNil))))))))))))))))))
  (dSeq (dAsg 4 (dOp (aAdd true) (dVar 4) (dLst (dCons (dLst (dCons (dC (.int 0)) (dCons (dC (.int 0)) (dCons (dC (.int 0)) (dCons (dC (.int 1)) dNil))))) (dCons (dCB aTuple (dCons (dVar 1) dNil)) (dCons (dOp (aMul false) (dLst (dCons (dC (.int 0)) dNil)) (dC (.int 151))) (dCons (dLst (dCons (dC (.int 0)) (dCons (dC (.str "0")) dNil))) (dCons (dLst (dCons (dC (.int 0)) (dCons (dC .none) dNil))) (dCons (dLst (dCons (dC (.int 0)) (dCons (dTup dNil) dNil))) (dCons (dC (.dict [(.int 0, .int 0)])) (dCons (dLst (dCons (dC (.int 0)) (dCons (dLst (dCons (dC (.int 0)) dNil)) dNil))) dNil)))))))))))
  (dSeq (dExpr (dMeth aAppend (dVar 4) (dCons (dOp (aAdd false) (dOp (aAdd false) (dSl false (dVar 1) dNoPart (dPart (dVar 3))) (dLst (dCons (dVar 2) dNil))) (dSl false (dVar 1) (dPart (dOp (aAdd false) (dVar 3) (dC (.int 1)))) dNoPart)) dNil)))
  (dSeq (dExpr (dMeth aAppend (dVar 4) (dCons (dOp (aAdd false) (dOp (aAdd false) (dSl false (dVar 1) dNoPart (dPart (dVar 3))) (dLst (dCons (dUn aNeg (dC (.int 1))) dNil))) (dSl false (dVar 1) (dPart (dOp (aAdd false) (dVar 3) (dC (.int 1)))) dNoPart)) dNil)))
  (dRet (dOp (aAdd false) (dVar 4) (dLst (dCons (dOp (aAdd false) (dOp (aAdd false) (dSl false (dVar 1) dNoPart (dPart (dVar 3))) (dLst (dCons (dC .none) dNil))) (dSl false (dVar 1) (dPart (dOp (aAdd false) (dVar 3) (dC (.int 1)))) dNoPart)) (dCons (dOp (aAdd false) (dVar 1) (dLst (dCons (dC (.bool true)) dNil))) (dCons (dOp (aAdd false) (dOp (aAdd false) (dLst (dCons (dC (.int 0)) dNil)) (dOp (aMul false) (dLst (dCons (dC (.int 0)) dNil)) (dC (.int 149)))) (dLst (dCons (dC (.int 0)) dNil))) dNil)))))))))))
def b1_need_logs (a_need_log : ASp) : AS :=
  (dExpr (dCall a_need_log (dCons (dVar 1) dNil)))
/-- 0 logs, 1 links: k37 k39 k40 k41 k42 k43 k75 k78 k81 -/
def g_need_logs (a_need_log : ASp) : AS :=
  (dSeq (dIfS (dB (dOp (aEq) (dCB aLen (dCons (dVar 0) dNil)) (dC (.int 0)))) dNever dNext)
  (dSeq (dFor (sTup (dVar 0)) (gN 1)
  (b1_need_logs a_need_log))
  (dIfS (dB (dOp (aNe) (dLenSc (sTup (dVar 0)) (gN 1) dYes (dCB aLen (dCons (dVar 1) dNil)) [1]) (dC (.int 1)))) dNever dNext)))
def b1_x_need_logs (ax_need_log : AXp) : XS :=
  fun Xa =>
  (dExpr (rCall ax_need_log (dCons (dVar 1) dNil) Xa))
/-- 0 logs, 1 links: k37 k39 k40 k41 k42 k43 k75 k78 k81 -/
def x_need_logs (ax_need_log : AXp) : XS :=
  fun Xa =>
  (dSeq (dIfS (dB (dOp (aEq) (dCB aLen (dCons (dVar 0) dNil)) (dC (.int 0)))) (xRaise "InvalidLog" Xa) dNext)
  (dSeq (dFor (sTup (dVar 0)) (gN 1)
  (b1_x_need_logs ax_need_log Xa))
  (dIfS (dB (dOp (aNe) (dLenSc (sTup (dVar 0)) (gN 1) dYes (dCB aLen (dCons (dVar 1) dNil)) [1]) (dC (.int 1)))) (xRaise "Different" Xa) dNext)))
/-- 0 links, 1 other, 2 one, 3 two: k37 k39 k42 k43 k75 k78 k81 -/
def g_is_above (a_need_logs : ASp) : AS :=
  (dSeq (dExpr (dCall a_need_logs (dCons (dTup (dCons (dVar 0) (dCons (dVar 1) dNil))) dNil)))
  (dRet (dCB aAll (dCons (dLc (sZip (dCons (dVar 0) (dCons (dVar 1) dNil))) (gT 2 (gN1 (gN 2) (gN1 (gN 3) gN0))) dYes (dOp (aB fun i j => decide (j ≤ i)) (dVar 2) (dVar 3)) [2, 3]) dNil))))
/-- 0 links, 1 other, 2 one, 3 two: k37 k39 k42 k43 k75 k78 k81 -/
def x_is_above (ax_need_logs : AXp) : XS :=
  fun Xa =>
  (dSeq (dExpr (rCall ax_need_logs (dCons (dTup (dCons (dVar 0) (dCons (dVar 1) dNil))) dNil) Xa))
  (dRet (dCB aAll (dCons (dLc (sZip (dCons (dVar 0) (dCons (dVar 1) dNil))) (gT 2 (gN1 (gN 2) (gN1 (gN 3) gN0))) dYes (dOp (aB fun i j => decide (j ≤ i)) (dVar 2) (dVar 3)) [2, 3]) dNil))))
def b1_law_targets : AS :=
  (dIfS (dB (dOp (aEq) (dLc (sRng2 (dCons (dOp (aAdd false) (dVar 2) (dC (.int 1))) (dCons (dCB aLen (dCons (dVar 0) dNil)) dNil))) (gN 3) (dB (dOp (aB fun i j => decide (i < j)) (dOp aIx (dVar 0) (dVar 3)) (dVar 2))) (dVar 3) [3]) (dLst dNil))) (dExpr (dMeth aAppend (dVar 1) (dCons (dVar 2) dNil))) dNext)
/-- 0 links, 1 found, 2 target, 3 entry: k41 k44 k45 k46 k47 -/
def g_law_targets : AS :=
  (dSeq (dAsg 1 (dLstM dNil))
  (dSeq (dFor (sRng1 (dCons (dCB aLen (dCons (dVar 0) dNil)) dNil)) (gN 2)
  (b1_law_targets))
  (dRet (dFrz (dVar 1)))))
/-- 0 links, 1 newest, 2 entry: k46 k48 k49 k76 k80 -/
def g_depths_in (a_greedy_chain : ASp) : AS :=
  (dSeq (dAsg 1 (dOp aSub (dCB aLen (dCons (dVar 0) dNil)) (dC (.int 1))))
  (dRet (dLc (sRng1 (dCons (dCB aLen (dCons (dVar 0) dNil)) dNil)) (gN 2) dYes (dOp aSub (dCB aLen (dCons (dCall a_greedy_chain (dCons (dVar 0) (dCons (dVar 1) (dCons (dVar 2) dNil)))) dNil)) (dC (.int 1))) [2])))
/-- 0 links, 1 newest, 2 entry: k44 -/
def g_depths_in_2 (a_greedy_chain : ASp) : AS :=
  (dSeq (dAsg 1 (dOp aSub (dCB aLen (dCons (dVar 0) dNil)) (dC (.int 1))))
  (dRet (dLcM (sRng1 (dCons (dCB aLen (dCons (dVar 0) dNil)) dNil)) (gN 2) dYes (dOp aSub (dCB aLen (dCons (dCall a_greedy_chain (dCons (dVar 0) (dCons (dVar 1) (dCons (dVar 2) dNil)))) dNil)) (dC (.int 1))) [2])))
/-- 0 links: k44 k48 k49 k76 k80 -/
def g_depths_of (a_need_log a_depths_in : ASp) : AS :=
  (dSeq (dExpr (dCall a_need_log (dCons (dVar 0) dNil)))
  (dRet (dCall a_depths_in (dCons (dVar 0) dNil))))
/-- 0 links: k44 k48 k49 k76 k80 -/
def x_depths_of (a_depths_in : ASp) (ax_need_log : AXp) : XS :=
  fun Xa =>
  (dSeq (dExpr (rCall ax_need_log (dCons (dVar 0) dNil) Xa))
  (dRet (dCall a_depths_in (dCons (dVar 0) dNil))))
def t1_law_depth : AT :=
  (dB (dOp (aB fun i j => decide (j < i)) (dVar 2) (dVar 1)))
def b1_law_depth : AS :=
  (dSeq (dAsg 4 (dIf (dB (dOp (aB fun i j => decide (j ≤ i)) (dOp aIx (dVar 0) (dVar 2)) (dVar 1))) (dOp aIx (dVar 0) (dVar 2)) (dOp aSub (dVar 2) (dC (.int 1)))))
  (dPar2 2 3 (dCons (dVar 4) (dCons (dOp (aAdd false) (dVar 3) (dC (.int 1))) dNil))))
/-- 0 links, 1 entry, 2 here, 3 found, 4 low: k45 k46 k47 -/
def g_law_depth : AS :=
  (dSeq (dPar2 2 3 (dCons (dOp aSub (dCB aLen (dCons (dVar 0) dNil)) (dC (.int 1))) (dCons (dC (.int 0)) dNil)))
  (dSeq (dWhile (t1_law_depth) (b1_law_depth))
  (dRet (dVar 3))))
def t1_law_power : AT :=
  (dB (dOp (aEq) (dOp aMod (dVar 1) (dVar 0)) (dC (.int 0))))
def b1_law_power : AS :=
  (dSeq (dAsg 1 (dOp aDiv (dVar 1) (dVar 0)))
  (dAsg 2 (dOp (aMul false) (dVar 2) (dVar 0))))
/-- 0 base, 1 entry, 2 found: k51 k52 k54 -/
def g_law_power : AS :=
  (dSeq (dAsg 2 (dC (.int 1)))
  (dSeq (dWhile (t1_law_power) (b1_law_power))
  (dRet (dVar 2))))
/-- 0 prices, 1 price: k46 k47 k48 k49 k76 k80 -/
def g_need_prices (a_is_integer : ASp) : AS :=
  (dSeq (dIfS (dOr (dNot (dB (dIsi "list" (dVar 0)))) (dNot (dB (dChain (aB fun i j => decide (i ≤ j)) (aB fun i j => decide (i ≤ j)) (dC (.int 1)) (dCB aLen (dCons (dVar 0) dNil)) (dC (.int 60)))))) dNever dNext)
  (dIfS (dNot (dB (dCB aAll (dCons (dLc (sList (dVar 0)) (gN 1) dYes (dCall a_is_integer (dCons (dVar 1) (dCons (dC (.int 0)) (dCons (dC (.int 1000000000000000000000000000000)) dNil)))) [1]) dNil)))) dNever dNext))
/-- 0 prices, 1 price: k46 k47 k48 k49 k76 k80 -/
def x_need_prices (a_is_integer : ASp) : XS :=
  fun Xa =>
  (dSeq (dIfS (dOr (dNot (dB (dIsi "list" (dVar 0)))) (dNot (dB (dChain (aB fun i j => decide (i ≤ j)) (aB fun i j => decide (i ≤ j)) (dC (.int 1)) (dCB aLen (dCons (dVar 0) dNil)) (dC (.int 60)))))) (xRaise "InvalidPrices" Xa) dNext)
  (dIfS (dNot (dB (dCB aAll (dCons (dLc (sList (dVar 0)) (gN 1) dYes (dCall a_is_integer (dCons (dVar 1) (dCons (dC (.int 0)) (dCons (dC (.int 1000000000000000000000000000000)) dNil)))) [1]) dNil)))) (xRaise "InvalidPrices" Xa) dNext))
/-- 0 links, 1 prices, 2 price, 3 depth: k46 k48 k49 k76 k80 -/
def g_cost_of (a_need_log a_need_prices a_depths_in : ASp) : AS :=
  (dSeq (dExpr (dCall a_need_log (dCons (dVar 0) dNil)))
  (dSeq (dExpr (dCall a_need_prices (dCons (dVar 1) dNil)))
  (dSeq (dIfS (dB (dOp (aNe) (dCB aLen (dCons (dVar 0) dNil)) (dCB aLen (dCons (dVar 1) dNil)))) dNever dNext)
  (dRet (dCB aSum (dCons (dLc (sZip (dCons (dVar 1) (dCons (dCall a_depths_in (dCons (dVar 0) dNil)) dNil))) (gT 2 (gN1 (gN 2) (gN1 (gN 3) gN0))) dYes (dOp (aMul false) (dVar 2) (dVar 3)) [2, 3]) dNil))))))
/-- 0 links, 1 prices, 2 price, 3 depth: k46 k48 k49 k76 k80 -/
def x_cost_of (a_depths_in : ASp) (ax_need_log ax_need_prices : AXp) : XS :=
  fun Xa =>
  (dSeq (dExpr (rCall ax_need_log (dCons (dVar 0) dNil) Xa))
  (dSeq (dExpr (rCall ax_need_prices (dCons (dVar 1) dNil) Xa))
  (dSeq (dIfS (dB (dOp (aNe) (dCB aLen (dCons (dVar 0) dNil)) (dCB aLen (dCons (dVar 1) dNil)))) (xRaise "Different" Xa) dNext)
  (dRet (dCB aSum (dCons (dLc (sZip (dCons (dVar 1) (dCons (dCall a_depths_in (dCons (dVar 0) dNil)) dNil))) (gT 2 (gN1 (gN 2) (gN1 (gN 3) gN0))) dYes (dOp (aMul false) (dVar 2) (dVar 3)) [2, 3]) dNil))))))
def t1_law_prices (a_law_take : ASp) : AT :=
  (dB (dOp (aB fun i j => decide (i < j)) (dCB aLen (dCons (dVar 3) dNil)) (dVar 1)))
def b1_law_prices (a_law_take : ASp) : AS :=
  (dExpr (dMeth aAppend (dVar 3) (dCons (dCB aMin (dCons (dOp (aMul false) (dC (.int 3)) (dOp aIx (dVar 3) (dUn aNeg (dC (.int 1))))) (dCons (dOp aPow (dC (.int 10)) (dC (.int 30))) dNil))) dNil)))
/-- 0 pot, 1 many, 2 style, 3 found, 4 turn: k47 k48 k49 -/
def g_law_prices (a_law_take : ASp) : AS :=
  (dSeq (dAsg 2 (dCall a_law_take (dCons (dVar 0) (dCons (dC (.int 6)) dNil))))
  (dSeq (dIfS (dB (dOp (aEq) (dVar 2) (dC (.int 1)))) (dRet (dOp (aMul false) (dLst (dCons (dC (.int 1)) dNil)) (dVar 1))) dNext)
  (dSeq (dIfS (dB (dOp (aEq) (dVar 2) (dC (.int 2)))) (dRet (dLc (sRng1 (dCons (dVar 1) dNil)) (gN 4) dYes (dOp aIx (dLst (dCons (dC (.int 0)) (dCons (dC (.int 0)) (dCons (dC (.int 1)) (dCons (dOp aPow (dC (.int 10)) (dC (.int 30))) dNil))))) (dCall a_law_take (dCons (dVar 0) (dCons (dC (.int 4)) dNil)))) [4])) dNext)
  (dSeq (dIfS (dB (dOp (aEq) (dVar 2) (dC (.int 3)))) (dSeq (dAsg 3 (dLstM (dCons (dC (.int 1)) dNil)))
  (dSeq (dWhile (t1_law_prices a_law_take) (b1_law_prices a_law_take))
  (dRet (dStep false (dVar 3) (dOp aIx (dLst (dCons (dC (.int 1)) (dCons (dUn aNeg (dC (.int 1))) dNil))) (dCall a_law_take (dCons (dVar 0) (dCons (dC (.int 2)) dNil)))))))) dNext)
  (dRet (dLc (sRng1 (dCons (dVar 1) dNil)) (gN 4) dYes (dCall a_law_take (dCons (dVar 0) (dCons (dOp aIx (dLst (dCons (dC (.int 10)) (dCons (dC (.int 100)) (dCons (dC (.int 10)) (dCons (dC (.int 10)) (dCons (dOp (aAdd false) (dOp aPow (dC (.int 10)) (dC (.int 30))) (dC (.int 1))) (dCons (dC (.int 4)) dNil))))))) (dVar 2)) dNil))) [4]))))))
/-- 0 prices: k47 k48 k49 k76 -/
def g_cheapest_cost (a_need_prices a_cost_table : ASp) : AS :=
  (dSeq (dExpr (dCall a_need_prices (dCons (dVar 0) dNil)))
  (dRet (dOp aIx (dGet (dCall a_cost_table (dCons (dVar 0) dNil)) (dTup (dCons (dC (.int 0)) (dCons (dOp aSub (dCB aLen (dCons (dVar 0) dNil)) (dC (.int 1))) dNil)))) (dC (.int 0)))))
/-- 0 prices: k47 k48 k49 k76 -/
def x_cheapest_cost (a_cost_table : ASp) (ax_need_prices : AXp) : XS :=
  fun Xa =>
  (dSeq (dExpr (rCall ax_need_prices (dCons (dVar 0) dNil) Xa))
  (dRet (dOp aIx (dGet (dCall a_cost_table (dCons (dVar 0) dNil)) (dTup (dCons (dC (.int 0)) (dCons (dOp aSub (dCB aLen (dCons (dVar 0) dNil)) (dC (.int 1))) dNil)))) (dC (.int 0)))))
/-- 0 value: k51 k52 k53 k54 k55 k56 k77 k83 -/
def g_need_base (a_is_integer : ASp) : AS :=
  (dIfS (dNot (dB (dCall a_is_integer (dCons (dVar 0) (dCons (dC (.int 2)) (dCons (dC (.int 36)) dNil)))))) dNever dNext)
/-- 0 value: k51 k52 k53 k54 k55 k56 k77 k83 -/
def x_need_base (a_is_integer : ASp) : XS :=
  fun Xa =>
  (dIfS (dNot (dB (dCall a_is_integer (dCons (dVar 0) (dCons (dC (.int 2)) (dCons (dC (.int 36)) dNil)))))) (xRaise "InvalidBase" Xa) dNext)
def t1_link_of : AT :=
  (dB (dOp (aEq) (dOp aMod (dVar 1) (dOp (aMul false) (dVar 2) (dVar 0))) (dC (.int 0))))
def b1_link_of : AS :=
  (dAug 2 (aIc CMul fun i j => i * j) (dVar 0))
/-- 0 base, 1 entry, 2 power: k51 k52 k53 k54 k55 k56 k77 k83 -/
def g_link_of : AS :=
  (dSeq (dAsg 2 (dC (.int 1)))
  (dSeq (dWhile (t1_link_of) (b1_link_of))
  (dRet (dOp aSub (dVar 1) (dVar 2)))))
/-- 0 base, 1 entry: k51 k55 k56 k77 -/
def g_ruler_link (a_need_base a_is_integer a_link_of : ASp) : AS :=
  (dSeq (dExpr (dCall a_need_base (dCons (dVar 0) dNil)))
  (dSeq (dIfS (dNot (dB (dCall a_is_integer (dCons (dVar 1) (dCons (dC (.int 1)) (dCons (dC (.int 1000000000000000000000000000000)) dNil)))))) dNever dNext)
  (dRet (dCall a_link_of (dCons (dVar 0) (dCons (dVar 1) dNil))))))
/-- 0 base, 1 entry: k51 k55 k56 k77 -/
def x_ruler_link (a_is_integer a_link_of : ASp) (ax_need_base : AXp) : XS :=
  fun Xa =>
  (dSeq (dExpr (rCall ax_need_base (dCons (dVar 0) dNil) Xa))
  (dSeq (dIfS (dNot (dB (dCall a_is_integer (dCons (dVar 1) (dCons (dC (.int 1)) (dCons (dC (.int 1000000000000000000000000000000)) dNil)))))) (xRaise "InvalidEntry" Xa) dNext)
  (dRet (dCall a_link_of (dCons (dVar 0) (dCons (dVar 1) dNil))))))
def t1_law_walk (a_law_power : ASp) : AT :=
  (dB (dOp (aB fun i j => decide (j < i)) (dOp aIx (dVar 3) (dUn aNeg (dC (.int 1)))) (dVar 2)))
def b1_law_walk (a_law_power : ASp) : AS :=
  (dSeq (dAsg 4 (dOp aSub (dOp aIx (dVar 3) (dUn aNeg (dC (.int 1)))) (dCall a_law_power (dCons (dVar 0) (dCons (dOp aIx (dVar 3) (dUn aNeg (dC (.int 1)))) dNil)))))
  (dExpr (dMeth aAppend (dVar 3) (dCons (dIf (dB (dOp (aB fun i j => decide (j ≤ i)) (dVar 4) (dVar 2))) (dVar 4) (dOp aSub (dOp aIx (dVar 3) (dUn aNeg (dC (.int 1)))) (dC (.int 1)))) dNil))))
/-- 0 base, 1 start, 2 end, 3 found, 4 goal: k51 k52 k54 -/
def g_law_walk (a_law_power : ASp) : AS :=
  (dSeq (dAsg 3 (dLstM (dCons (dVar 1) dNil)))
  (dSeq (dWhile (t1_law_walk a_law_power) (b1_law_walk a_law_power))
  (dRet (dFrz (dVar 3)))))
/-- 0 reel: k51 k52 k53 k54 k55 k56 -/
def g_law_base (a_law_turn : ASp) : AS :=
  (dRet (dOp aIx (dLst (dCons (dC (.int 2)) (dCons (dC (.int 10)) (dCons (dC (.int 36)) (dCons (dC (.int 3)) (dCons (dOp (aAdd false) (dC (.int 2)) (dCall a_law_turn (dCons (dVar 0) (dCons (dC (.int 35)) dNil)))) dNil)))))) (dCall a_law_turn (dCons (dVar 0) (dCons (dC (.int 5)) dNil)))))
def b1_law_place (a_law_turn : ASp) : AS :=
  (dSeq (dAsg 4 (dOp (aMul false) (dVar 2) (dVar 1)))
  (dAsg 2 (dIf (dB (dOp (aB fun i j => decide (i ≤ j)) (dVar 4) (dOp aPow (dC (.int 10)) (dC (.int 30))))) (dVar 4) (dVar 2))))
/-- 0 reel, 1 base, 2 power, 3 turn, 4 more, 5 small, 6 many, 7 near, 8 some: k51 k52 k53 k55 k56 -/
def g_law_place (a_law_turn : ASp) : AS :=
  (dSeq (dAsg 2 (dC (.int 1)))
  (dSeq (dFor (sRng1 (dCons (dCall a_law_turn (dCons (dVar 0) (dCons (dC (.int 60)) dNil))) dNil)) (gN 3)
  (b1_law_place a_law_turn))
  (dSeq (dPar2 5 6 (dCons (dCall a_law_turn (dCons (dVar 0) (dCons (dC (.int 200)) dNil))) (dCons (dCall a_law_turn (dCons (dVar 0) (dCons (dOp (aAdd false) (dOp aPow (dC (.int 10)) (dC (.int 30))) (dC (.int 1))) dNil))) dNil)))
  (dSeq (dAsg 7 (dCB aMax (dCons (dC (.int 0)) (dCons (dCB aMin (dCons (dOp aPow (dC (.int 10)) (dC (.int 30))) (dCons (dOp aSub (dOp (aAdd false) (dVar 2) (dCall a_law_turn (dCons (dVar 0) (dCons (dC (.int 5)) dNil)))) (dC (.int 2))) dNil))) dNil))))
  (dSeq (dAsg 8 (dLst (dCons (dVar 5) (dCons (dVar 6) (dCons (dVar 7) (dCons (dOp (aMul false) (dOp aDiv (dVar 6) (dVar 2)) (dVar 2)) (dCons (dOp aSub (dOp aPow (dC (.int 10)) (dC (.int 30))) (dVar 5)) (dCons (dOp aDiv (dVar 6) (dVar 2)) dNil))))))))
  (dRet (dOp aIx (dVar 8) (dCall a_law_turn (dCons (dVar 0) (dCons (dC (.int 6)) dNil))))))))))
/-- 0 start, 1 end: k52 k53 k54 k55 k56 k77 k83 -/
def g_need_ends (a_is_integer : ASp) : AS :=
  (dSeq (dIfS (dNot (dB (dCall a_is_integer (dCons (dVar 0) (dCons (dC (.int 0)) (dCons (dC (.int 1000000000000000000000000000000)) dNil)))))) dNever dNext)
  (dIfS (dNot (dB (dCall a_is_integer (dCons (dVar 1) (dCons (dC (.int 0)) (dCons (dVar 0) dNil)))))) dNever dNext))
/-- 0 start, 1 end: k52 k53 k54 k55 k56 k77 k83 -/
def x_need_ends (a_is_integer : ASp) : XS :=
  fun Xa =>
  (dSeq (dIfS (dNot (dB (dCall a_is_integer (dCons (dVar 0) (dCons (dC (.int 0)) (dCons (dC (.int 1000000000000000000000000000000)) dNil)))))) (xRaise "InvalidEntry" Xa) dNext)
  (dIfS (dNot (dB (dCall a_is_integer (dCons (dVar 1) (dCons (dC (.int 0)) (dCons (dVar 0) dNil)))))) (xRaise "InvalidEntry" Xa) dNext))
/-- 0 base, 1 start, 2 end: k52 k53 k55 k56 k77 k83 -/
def g_ruler_length (a_need_base a_need_ends a_walked : ASp) : AS :=
  (dSeq (dExpr (dCall a_need_base (dCons (dVar 0) dNil)))
  (dSeq (dExpr (dCall a_need_ends (dCons (dVar 1) (dCons (dVar 2) dNil))))
  (dRet (dOp aSub (dCB aLen (dCons (dCB (aList false) (dCons (dCall a_walked (dCons (dVar 0) (dCons (dVar 1) (dCons (dVar 2) dNil)))) dNil)) dNil)) (dC (.int 1))))))
/-- 0 base, 1 start, 2 end: k52 k53 k55 k56 k77 k83 -/
def x_ruler_length (a_walked : ASp) (ax_need_base ax_need_ends : AXp) : XS :=
  fun Xa =>
  (dSeq (dExpr (rCall ax_need_base (dCons (dVar 0) dNil) Xa))
  (dSeq (dExpr (rCall ax_need_ends (dCons (dVar 1) (dCons (dVar 2) dNil)) Xa))
  (dRet (dOp aSub (dCB aLen (dCons (dCB (aList false) (dCons (dCall a_walked (dCons (dVar 0) (dCons (dVar 1) (dCons (dVar 2) dNil)))) dNil)) dNil)) (dC (.int 1))))))
/-- 0 value, 1 least, 2 most: k57 k58 k59 k60 k61 k69 k70 k71 k72 k79 -/
def g_is_whole : AS :=
  (dRet (dAndV (dIsi "int" (dVar 0)) (dAndV (dNotV (dIsi "bool" (dVar 0))) (dChain (aB fun i j => decide (i ≤ j)) (aB fun i j => decide (i ≤ j)) (dVar 1) (dVar 0) (dVar 2)))))
/-- 0 tag, 1 letter: k57 k58 k59 k60 k61 k69 k70 k71 k72 k79 -/
def g_need_tag : AS :=
  (dSeq (dIfS (dOr (dNot (dB (dIsi "str" (dVar 0)))) (dNot (dB (dChain (aB fun i j => decide (i ≤ j)) (aB fun i j => decide (i ≤ j)) (dC (.int 1)) (dCB aLen (dCons (dVar 0) dNil)) (dC (.int 8)))))) dNever dNext)
  (dIfS (dNot (dB (dCB aAll (dCons (dLc (sList (dVar 0)) (gN 1) dYes (dOp (aIn false) (dVar 1) (dC (.str "abcdefghijklmnopqrstuvwxyz"))) [1]) dNil)))) dNever dNext))
/-- 0 tag, 1 letter: k57 k58 k59 k60 k61 k69 k70 k71 k72 k79 -/
def x_need_tag : XS :=
  fun Xa =>
  (dSeq (dIfS (dOr (dNot (dB (dIsi "str" (dVar 0)))) (dNot (dB (dChain (aB fun i j => decide (i ≤ j)) (aB fun i j => decide (i ≤ j)) (dC (.int 1)) (dCB aLen (dCons (dVar 0) dNil)) (dC (.int 8)))))) (xRaise "InvalidTag" Xa) dNext)
  (dIfS (dNot (dB (dCB aAll (dCons (dLc (sList (dVar 0)) (gN 1) dYes (dOp (aIn false) (dVar 1) (dC (.str "abcdefghijklmnopqrstuvwxyz"))) [1]) dNil)))) (xRaise "InvalidTag" Xa) dNext))
def b1_need_target (a_is_whole : ASp) : AS :=
  (dIfS (dB (dOp (aB fun i j => decide (i < j)) (dOp aIx (dVar 0) (dVar 4)) (dVar 1))) dNever dNext)
/-- 0 links, 1 target, 2 most, 3 entry, 4 other: k57 k58 k59 k60 k61 k69 k70 k71 k72 k79 -/
def g_need_target (a_is_whole : ASp) : AS :=
  (dSeq (dAsg 3 (dCB aLen (dCons (dVar 0) dNil)))
  (dSeq (dIfS (dB (dOp (aB fun i j => decide (j ≤ i)) (dVar 3) (dVar 2))) dNever dNext)
  (dSeq (dIfS (dNot (dB (dCall a_is_whole (dCons (dVar 1) (dCons (dC (.int 0)) (dCons (dOp aSub (dVar 3) (dC (.int 1))) dNil)))))) dNever dNext)
  (dFor (sRng2 (dCons (dOp (aAdd false) (dVar 1) (dC (.int 1))) (dCons (dVar 3) dNil))) (gN 4)
  (b1_need_target a_is_whole)))))
/-- 0 script, 1 k, 2 cell: k60 k61 k73 k74 k75 k76 k77 -/
def g_law_bag : AS :=
  (dSeq (dAsg 2 (dC (.int 0)))
  (dSeq (dIfS (dB (dOp (aB fun i j => decide (i < j)) (dVar 1) (dCB aLen (dCons (dVar 0) dNil)))) (dAsg 2 (dOp aIx (dVar 0) (dVar 1))) dNext)
  (dRet (dLst (dCons (dCB aMax (dCons (dC (.int 0)) (dCons (dOp aSub (dVar 2) (dOp aPow (dC (.int 10)) (dC (.int 18)))) dNil))) (dCons (dOp aMod (dVar 2) (dOp (aAdd false) (dOp aPow (dC (.int 10)) (dC (.int 40))) (dC (.int 121)))) (dCons (dOp (aMul false) (dC (.int 61)) (dVar 1)) dNil)))))))
/-- 0 script, 1 k, 2 cell: k57 k58 k59 k78 -/
def g_law_bag_2 : AS :=
  (dSeq (dAsg 2 (dC (.int 0)))
  (dSeq (dIfS (dB (dOp (aB fun i j => decide (i < j)) (dVar 1) (dCB aLen (dCons (dVar 0) dNil)))) (dAsg 2 (dOp aIx (dVar 0) (dVar 1))) dNext)
  (dRet (dLstM (dCons (dCB aMax (dCons (dC (.int 0)) (dCons (dOp aSub (dVar 2) (dOp aPow (dC (.int 10)) (dC (.int 18)))) dNil))) (dCons (dOp aMod (dVar 2) (dOp (aAdd false) (dOp aPow (dC (.int 10)) (dC (.int 40))) (dC (.int 121)))) (dCons (dOp (aMul false) (dC (.int 61)) (dVar 1)) dNil)))))))
/-- 0 script, 1 k, 2 cell: k79 k80 k81 k82 -/
def g_law_bag_3 : AS :=
  (dSeq (dAsg 2 (dC (.int 0)))
  (dSeq (dIfS (dB (dOp (aB fun i j => decide (i < j)) (dVar 1) (dCB aLen (dCons (dVar 0) dNil)))) (dAsg 2 (dOp aIx (dVar 0) (dVar 1))) dNext)
  (dRet (dLstM (dCons (dCB aMax (dCons (dC (.int 0)) (dCons (dOp aSub (dVar 2) (dOp aPow (dC (.int 10)) (dC (.int 18)))) dNil))) (dCons (dOp aMod (dCB aInt (dCons (dVar 2) dNil)) (dOp (aAdd false) (dOp aPow (dC (.int 10)) (dC (.int 40))) (dC (.int 121)))) (dCons (dOp (aMul false) (dC (.int 61)) (dVar 1)) dNil)))))))
/-- 0 bag, 1 values: k57 k58 k59 k60 k61 k73 k74 k75 k76 k77 -/
def g_law_pick (a_law_take : ASp) : AS :=
  (dRet (dOp aIx (dVar 1) (dCall a_law_take (dCons (dVar 0) (dCons (dCB aLen (dCons (dVar 1) dNil)) dNil)))))
def b1_law_allowed : AS :=
  (dIfS (dB (dOp (aEq) (dLc (sRng2 (dCons (dOp (aAdd false) (dVar 2) (dC (.int 1))) (dCons (dCB aLen (dCons (dVar 0) dNil)) dNil))) (gN 3) (dB (dOp (aB fun i j => decide (i < j)) (dOp aIx (dVar 0) (dVar 3)) (dVar 2))) (dVar 3) [3]) (dLst dNil))) (dExpr (dMeth aAppend (dVar 1) (dCons (dVar 2) dNil))) dNext)
/-- 0 links, 1 found, 2 target, 3 entry: k57 k58 k59 k60 k61 k73 k74 k75 k76 k77 -/
def g_law_allowed : AS :=
  (dSeq (dAsg 1 (dLstM dNil))
  (dSeq (dFor (sRng1 (dCons (dCB aLen (dCons (dVar 0) dNil)) dNil)) (gN 2)
  (b1_law_allowed))
  (dRet (dFrz (dVar 1)))))
def b1_law_allowed_2 : AS :=
  (dAsg 1 (dOp (aAdd false) (dLc (sList (dVar 1)) (gN 3) (dB (dOp (aB fun i j => decide (i ≤ j)) (dVar 3) (dOp aIx (dVar 0) (dVar 2)))) (dVar 3) [3]) (dLst (dCons (dVar 2) dNil))))
/-- 0 links, 1 found, 2 entry, 3 target: k79 k80 k81 k82 -/
def g_law_allowed_2 : AS :=
  (dSeq (dAsg 1 (dLst (dCons (dC (.int 0)) dNil)))
  (dSeq (dFor (sRng2 (dCons (dC (.int 1)) (dCons (dCB aLen (dCons (dVar 0) dNil)) dNil))) (gN 2)
  (b1_law_allowed_2))
  (dRet (dVar 1))))
def t1_law_shortest : AT :=
  (dB (dOp (aNe) (dOp aIx (dVar 3) (dUn aNeg (dC (.int 1)))) (dVar 2)))
def b1_law_shortest : AS :=
  (dSeq (dAsg 4 (dOp aIx (dVar 0) (dOp aIx (dVar 3) (dUn aNeg (dC (.int 1))))))
  (dExpr (dMeth aAppend (dVar 3) (dCons (dIf (dB (dOp (aB fun i j => decide (j ≤ i)) (dVar 4) (dVar 2))) (dVar 4) (dOp aSub (dOp aIx (dVar 3) (dUn aNeg (dC (.int 1)))) (dC (.int 1)))) dNil))))
/-- 0 links, 1 start, 2 end, 3 found, 4 link: k57 k58 k59 k60 k61 k73 k74 k75 k76 k77 k78 -/
def g_law_shortest : AS :=
  (dSeq (dAsg 3 (dLstM (dCons (dVar 1) dNil)))
  (dSeq (dWhile (t1_law_shortest) (b1_law_shortest))
  (dRet (dFrz (dVar 3)))))
def b1_law_first_crossing : AS :=
  (dIfS (dB (dOp (aB fun i j => decide (i < j)) (dOp aIx (dVar 0) (dVar 2)) (dVar 1))) (dRet (dTup (dCons (dVar 2) (dCons (dCB aLen (dCons (dVar 0) dNil)) dNil)))) dNext)
/-- 0 links, 1 target, 2 entry: k57 k58 k59 k60 k61 k73 k74 k75 k76 k77 -/
def g_law_first_crossing : AS :=
  (dSeq (dFor (sRng2 (dCons (dOp (aAdd false) (dVar 1) (dC (.int 1))) (dCons (dCB aLen (dCons (dVar 0) dNil)) dNil))) (gN 2)
  (b1_law_first_crossing))
  (dRet (dC .none)))
/-- 0 word, 1 most, 2 sign: k58 k60 k66 k67 k68 k69 k70 k71 k72 k79 -/
def g_number_in : AS :=
  (dSeq (dIfS (dOr (dNot (dB (dChain (aB fun i j => decide (i ≤ j)) (aB fun i j => decide (i ≤ j)) (dC (.int 1)) (dCB aLen (dCons (dVar 0) dNil)) (dVar 1)))) (dNot (dB (dCB aAll (dCons (dLc (sList (dVar 0)) (gN 2) dYes (dOp (aIn false) (dVar 2) (dC (.str "0123456789"))) [2]) dNil))))) (dRet (dC .none)) dNext)
  (dRet (dIf (dAnd (dB (dOp (aEq) (dOp aIx (dVar 0) (dC (.int 0))) (dC (.str "0")))) (dB (dOp (aB fun i j => decide (j < i)) (dCB aLen (dCons (dVar 0) dNil)) (dC (.int 1))))) (dC .none) (dCB aInt (dCons (dVar 0) dNil)))))
/-- 0 words, 1 found, 2 word: k58 k60 k66 k67 k68 k69 k70 k71 k72 k79 -/
def g_numbers_in (a_number_in : ASp) : AS :=
  (dSeq (dAsg 1 (dLc (sList (dVar 0)) (gN 2) dYes (dCall a_number_in (dCons (dVar 2) (dCons (dC (.int 3)) dNil))) [2]))
  (dRet (dIf (dB (dOp (aIn false) (dC .none) (dVar 1))) (dC .none) (dVar 1))))
/-- 0 links: k66 k67 k68 k72 -/
def g_show_log (a_need_log a_log_text : ASp) : AS :=
  (dSeq (dExpr (dCall a_need_log (dCons (dVar 0) dNil)))
  (dRet (dCall a_log_text (dCons (dVar 0) dNil))))
/-- 0 links: k66 k67 k68 k72 -/
def x_show_log (a_log_text : ASp) (ax_need_log : AXp) : XS :=
  fun Xa =>
  (dSeq (dExpr (rCall ax_need_log (dCons (dVar 0) dNil) Xa))
  (dRet (dCall a_log_text (dCons (dVar 0) dNil))))
/-- 0 links, 1 chain: k66 k68 k79 -/
def g_show_chain (a_need_log a_need_chain a_chain_text : ASp) : AS :=
  (dSeq (dExpr (dCall a_need_log (dCons (dVar 0) dNil)))
  (dSeq (dExpr (dCall a_need_chain (dCons (dVar 0) (dCons (dVar 1) dNil))))
  (dRet (dCall a_chain_text (dCons (dVar 1) dNil)))))
/-- 0 links, 1 chain: k66 k68 k79 -/
def x_show_chain (a_chain_text : ASp) (ax_need_log ax_need_chain : AXp) : XS :=
  fun Xa =>
  (dSeq (dExpr (rCall ax_need_log (dCons (dVar 0) dNil) Xa))
  (dSeq (dExpr (rCall ax_need_chain (dCons (dVar 0) (dCons (dVar 1) dNil)) Xa))
  (dRet (dCall a_chain_text (dCons (dVar 1) dNil)))))
def b1_law_is_chain (a_law_whole : ASp) : AS :=
  (dIfS (dOr (dB (dOp (aEq) (dVar 2) (dC (.int 0)))) (dB (dOp (aIn true) (dVar 3) (dTup (dCons (dOp aSub (dVar 2) (dC (.int 1))) (dCons (dOp aIx (dVar 0) (dVar 2)) dNil)))))) (dRet (dC (.bool false))) dNext)
/-- 0 links, 1 value, 2 one, 3 other, 4 entry: k66 k68 -/
def g_law_is_chain (a_law_whole : ASp) : AS :=
  (dSeq (dIfS (dOr (dNot (dB (dIsi "list" (dVar 1)))) (dB (dOp (aEq) (dVar 1) (dLst dNil)))) (dRet (dC (.bool false))) dNext)
  (dSeq (dIfS (dB (dOp (aNe) (dLc (sList (dVar 1)) (gN 4) (dNot (dB (dCall a_law_whole (dCons (dVar 4) (dCons (dC (.int 0)) (dCons (dOp aSub (dCB aLen (dCons (dVar 0) dNil)) (dC (.int 1))) dNil)))))) (dVar 4) [4]) (dLst dNil))) (dRet (dC (.bool false))) dNext)
  (dSeq (dFor (sZip (dCons (dVar 1) (dCons (dSl false (dVar 1) (dPart (dC (.int 1))) dNoPart) dNil))) (gT 2 (gN1 (gN 2) (gN1 (gN 3) gN0)))
  (b1_law_is_chain a_law_whole))
  (dRet (dC (.bool true))))))
/-- 0 lower, 1 upper, 2 joint, 3 link: k80 k81 -/
def g_law_stacked : AS :=
  (dSeq (dAsg 2 (dOp aSub (dCB aLen (dCons (dVar 0) dNil)) (dC (.int 1))))
  (dRet (dOp (aAdd false) (dVar 0) (dLc (sList (dSl false (dVar 1) (dPart (dC (.int 1))) dNoPart)) (gN 3) dYes (dOp (aAdd false) (dVar 3) (dVar 2)) [3]))))
/-- 0 entries, 1 joint, 2 entry: k80 k81 -/
def g_law_shifted : AS :=
  (dRet (dLc (sList (dVar 0)) (gN 2) dYes (dOp (aAdd false) (dVar 2) (dVar 1)) [2]))
end Z.P
/-! printed by gen.py: the readings of the defs of law_k09_chains_counted_and_numbered -/
namespace Z.K09
open PySem PySem.Spec PyProof.Rows L2 Z Z.P
def topS (i : Nat) : Stmt := PySem.Challenge.pw_backlinks_k09_chains_counted_and_numbere.main.body.getD i (.Pass ⟨0, 0, 0, 0⟩)

/-! is_integer(value, low, high): 0 value, 1 low, 2 high -/
abbrev s_is_integer : Stmt := topS 8
abbrev N_is_integer : List Str := ["value", "low", "high"]
theorem sc_is_integer : FnScope N_is_integer ["value", "low", "high"] (defScope s_is_integer) := ⟨rfl, rfl, rfl, by decide +kernel, rfl, by decide +kernel, by decide +kernel⟩
theorem ok_is_integer {P : Program} {w : World} {K : PySem.W.Frag} {mg : Str → Option Value} {base : Heap} {a : ASp} (d : Dfn K mg "is_integer" s_is_integer ["value", "low", "high"]) (n_isinstance : mg "isinstance" = none) (n_int : mg "int" = none) (n_bool : mg "bool" = none)
    (len : ∀ us m Q, a us m Q → us.length = 3) (sem : ∀ us m Q, a us m Q → g_is_integer  (endsD m.length Q) (startU 3 us) m) : Cal P w K mg base 1 "is_integer" ["value", "low", "high"] a := by
  refine Cal.mk' d sc_is_integer len (fun f cdv A outer s H E hr hg => ?_) sem
  have nd := sc_is_integer.nd
  unfold g_is_integer
  exact (dss_one (ds_ret (de_and (de_isi (by decide) (dv 0) n_isinstance n_int bt_int) (de_and (de_not (de_isi (by decide) (dv 0) n_isinstance n_bool bt_bool)) (de_one (de_chain (op_le) (sim_B _) (op_le) (sim_B _) (dv 1) (dv 0) (dv 2)))))))

/-! have_form(value): 0 value, 1 entry, 2 link -/
abbrev s_have_form : Stmt := topS 9
abbrev N_have_form : List Str := ["value", "entry", "link"]
theorem sc_have_form : FnScope N_have_form ["value"] (defScope s_have_form) := ⟨rfl, rfl, rfl, by decide +kernel, rfl, by decide +kernel, by decide +kernel⟩
theorem ok_have_form {P : Program} {w : World} {K : PySem.W.Frag} {mg : Str → Option Value} {base : Heap} {a a_is_integer : ASp} (d : Dfn K mg "have_form" s_have_form ["value"]) (C_is_integer : Cal P w K mg base 1 "is_integer" ["value", "low", "high"] a_is_integer) (n_isinstance : mg "isinstance" = none) (n_list : mg "list" = none) (n_len : mg "len" = none) (n_enumerate : mg "enumerate" = none) (n_max : mg "max" = none) (n_all : mg "all" = none) (c_MOST_ENTRIES : ∃ t, mg "MOST_ENTRIES" = some (.int 150 t))
    (len : ∀ us m Q, a us m Q → us.length = 1) (sem : ∀ us m Q, a us m Q → g_have_form a_is_integer (endsD m.length Q) (startU 3 us) m) : Cal P w K mg base 2 "have_form" ["value"] a := by
  obtain ⟨_, c_MOST_ENTRIES⟩ := c_MOST_ENTRIES
  refine Cal.mk' d sc_have_form len (fun f cdv A outer s H E hr hg => ?_) sem
  have nd := sc_have_form.nd
  unfold g_have_form
  exact (dss_cons (ds_if (PW.pt (dw_or (dt_not (dt_val (de_isi (by decide) (dv 0) n_isinstance n_list bt_list))) (dw_or1 (dt_not (dt_chain (op_le) (sim_B _) (op_le) (sim_B _) de_int (de_callB call_lenA sim_len (by rfl) n_len bt_len (da_cons (dv 0) da_nil)) (de_gint c_MOST_ENTRIES)))))) (dss_one (ds_ret de_bl)) dss_nil)
  (dss_one (ds_ret (de_callB (cr_all rfl) sim_all (by rfl) n_all bt_all (da_cons (de_lc rfl nd (di_enum n_enumerate (da_cons (dv 0) da_nil)) (blkOk_by (own := [("entry", 1), ("link", 2)]) (N := N_have_form) (sc := defScope s_have_form) (by decide +kernel)) rfl (gown_2 1 2) (fun _ _ _ _ _ => (pg_tup rfl (pgs_cons (pg_name (i := 1) nd rfl (by first | exact Or.inl rfl | exact Or.inr rfl)) (pgs_cons (pg_name (i := 2) nd rfl (by first | exact Or.inl rfl | exact Or.inr rfl)) pgs_nil)))) (fun _ _ _ _ _ => dts_nil) (fun _ _ _ _ _ => (de_calC C_is_integer hr hg (da_cons (dv 2) (da_cons de_int (da_cons (de_callB (call_maxA rfl) sim_max (by rfl) n_max bt_max (da_cons de_int (da_cons (de_op op_sub (sim_I _) (dv 1) de_int) da_nil))) da_nil)))))) da_nil)))))

/-! least_crossing(links): 0 links, 1 entry, 2 link, 3 other -/
abbrev s_least_crossing : Stmt := topS 10
abbrev N_least_crossing : List Str := ["links", "entry", "link", "other"]
theorem sc_least_crossing : FnScope N_least_crossing ["links"] (defScope s_least_crossing) := ⟨rfl, rfl, rfl, by decide +kernel, rfl, by decide +kernel, by decide +kernel⟩
theorem ok_least_crossing {P : Program} {w : World} {K : PySem.W.Frag} {mg : Str → Option Value} {base : Heap} {a : ASp} (d : Dfn K mg "least_crossing" s_least_crossing ["links"]) (n_enumerate : mg "enumerate" = none) (n_len : mg "len" = none) (n_range : mg "range" = none)
    (len : ∀ us m Q, a us m Q → us.length = 1) (sem : ∀ us m Q, a us m Q → g_least_crossing  (endsD m.length Q) (startU 4 us) m) : Cal P w K mg base 1 "least_crossing" ["links"] a := by
  refine Cal.mk' d sc_least_crossing len (fun f cdv A outer s H E hr hg => ?_) sem
  have nd := sc_least_crossing.nd
  unfold g_least_crossing b2_least_crossing b1_least_crossing
  exact (dss_cons (ds_for .never rfl (di_enum n_enumerate (da_cons (dv 0) da_nil)) (dg_tup rfl (dgs_cons (dg_n 1 nd) (dgs_cons (dg_n 2 nd) dgs_nil)))
  (dss_one (ds_for .never rfl (di_rng2 n_range (da_cons (de_op op_addAll (sim_add false) (dv 1) de_int) (da_cons (de_callB call_lenA sim_len (by rfl) n_len bt_len (da_cons (dv 0) da_nil)) da_nil))) (dg_n 3 nd)
  (dss_one (ds_if (dt_chain (op_lt) (sim_B _) (op_lt) (sim_B _) (dv 2) (de_ix (dv 0) (dv 3)) (dv 1)) (dss_one (ds_ret (de_tup (da_cons (dv 1) (da_cons (dv 3) da_nil))))) dss_nil)))))
  (dss_one (ds_ret de_non)))

/-! is_log(value): 0 value -/
abbrev s_is_log : Stmt := topS 11
abbrev N_is_log : List Str := ["value"]
theorem sc_is_log : FnScope N_is_log ["value"] (defScope s_is_log) := ⟨rfl, rfl, rfl, by decide +kernel, rfl, by decide +kernel, by decide +kernel⟩
theorem ok_is_log {P : Program} {w : World} {K : PySem.W.Frag} {mg : Str → Option Value} {base : Heap} {a a_have_form a_least_crossing : ASp} (d : Dfn K mg "is_log" s_is_log ["value"]) (C_have_form : Cal P w K mg base 2 "have_form" ["value"] a_have_form) (C_least_crossing : Cal P w K mg base 1 "least_crossing" ["links"] a_least_crossing)
    (len : ∀ us m Q, a us m Q → us.length = 1) (sem : ∀ us m Q, a us m Q → g_is_log a_have_form a_least_crossing (endsD m.length Q) (startU 1 us) m) : Cal P w K mg base 3 "is_log" ["value"] a := by
  refine Cal.mk' d sc_is_log len (fun f cdv A outer s H E hr hg => ?_) sem
  have nd := sc_is_log.nd
  unfold g_is_log
  exact (dss_one (ds_ret (de_and (de_calC C_have_form hr hg (da_cons (dv 0) da_nil)) (de_one (de_isN (de_calC C_least_crossing hr hg (da_cons (dv 0) da_nil)))))))

/-! need_log(value): 0 value -/
abbrev s_need_log : Stmt := topS 12
abbrev N_need_log : List Str := ["value"]
theorem sc_need_log : FnScope N_need_log ["value"] (defScope s_need_log) := ⟨rfl, rfl, rfl, by decide +kernel, rfl, by decide +kernel, by decide +kernel⟩
theorem ok_need_log {P : Program} {w : World} {K : PySem.W.Frag} {mg : Str → Option Value} {base : Heap} {a a_is_log : ASp} (d : Dfn K mg "need_log" s_need_log ["value"]) (C_is_log : Cal P w K mg base 3 "is_log" ["value"] a_is_log)
    (len : ∀ us m Q, a us m Q → us.length = 1) (sem : ∀ us m Q, a us m Q → g_need_log a_is_log (endsD m.length Q) (startU 1 us) m) : Cal P w K mg base 4 "need_log" ["value"] a := by
  refine Cal.mk' d sc_need_log len (fun f cdv A outer s H E hr hg => ?_) sem
  have nd := sc_need_log.nd
  unfold g_need_log
  exact (dss_one (ds_if (dt_not (dt_val (de_calC C_is_log hr hg (da_cons (dv 0) da_nil)))) (dss_one ds_never) dss_nil))

/-! need_entry(links, entry): 0 links, 1 entry -/
abbrev s_need_entry : Stmt := topS 14
abbrev N_need_entry : List Str := ["links", "entry"]
theorem sc_need_entry : FnScope N_need_entry ["links", "entry"] (defScope s_need_entry) := ⟨rfl, rfl, rfl, by decide +kernel, rfl, by decide +kernel, by decide +kernel⟩
theorem ok_need_entry {P : Program} {w : World} {K : PySem.W.Frag} {mg : Str → Option Value} {base : Heap} {a a_is_integer : ASp} (d : Dfn K mg "need_entry" s_need_entry ["links", "entry"]) (C_is_integer : Cal P w K mg base 1 "is_integer" ["value", "low", "high"] a_is_integer) (n_len : mg "len" = none)
    (len : ∀ us m Q, a us m Q → us.length = 2) (sem : ∀ us m Q, a us m Q → g_need_entry a_is_integer (endsD m.length Q) (startU 2 us) m) : Cal P w K mg base 2 "need_entry" ["links", "entry"] a := by
  refine Cal.mk' d sc_need_entry len (fun f cdv A outer s H E hr hg => ?_) sem
  have nd := sc_need_entry.nd
  unfold g_need_entry
  exact (dss_one (ds_if (dt_not (dt_val (de_calC C_is_integer hr hg (da_cons (dv 1) (da_cons de_int (da_cons (de_op op_sub (sim_I _) (de_callB call_lenA sim_len (by rfl) n_len bt_len (da_cons (dv 0) da_nil)) de_int) da_nil)))))) (dss_one ds_never) dss_nil))

/-! need_range(links, start, end): 0 links, 1 start, 2 end -/
abbrev s_need_range : Stmt := topS 15
abbrev N_need_range : List Str := ["links", "start", "end"]
theorem sc_need_range : FnScope N_need_range ["links", "start", "end"] (defScope s_need_range) := ⟨rfl, rfl, rfl, by decide +kernel, rfl, by decide +kernel, by decide +kernel⟩
theorem ok_need_range {P : Program} {w : World} {K : PySem.W.Frag} {mg : Str → Option Value} {base : Heap} {a a_need_entry a_is_integer : ASp} (d : Dfn K mg "need_range" s_need_range ["links", "start", "end"]) (C_need_entry : Cal P w K mg base 2 "need_entry" ["links", "entry"] a_need_entry) (C_is_integer : Cal P w K mg base 1 "is_integer" ["value", "low", "high"] a_is_integer)
    (len : ∀ us m Q, a us m Q → us.length = 3) (sem : ∀ us m Q, a us m Q → g_need_range a_need_entry a_is_integer (endsD m.length Q) (startU 3 us) m) : Cal P w K mg base 3 "need_range" ["links", "start", "end"] a := by
  refine Cal.mk' d sc_need_range len (fun f cdv A outer s H E hr hg => ?_) sem
  have nd := sc_need_range.nd
  unfold g_need_range
  exact (dss_cons (ds_expr (de_calC C_need_entry hr hg (da_cons (dv 0) (da_cons (dv 1) da_nil))))
  (dss_one (ds_if (dt_not (dt_val (de_calC C_is_integer hr hg (da_cons (dv 2) (da_cons de_int (da_cons (dv 1) da_nil)))))) (dss_one ds_never) dss_nil)))

/-! is_chain_of(links, value): 0 links, 1 value, 2 entry, 3 later -/
abbrev s_is_chain_of : Stmt := topS 16
abbrev N_is_chain_of : List Str := ["links", "value", "entry", "later"]
theorem sc_is_chain_of : FnScope N_is_chain_of ["links", "value"] (defScope s_is_chain_of) := ⟨rfl, rfl, rfl, by decide +kernel, rfl, by decide +kernel, by decide +kernel⟩
theorem ok_is_chain_of {P : Program} {w : World} {K : PySem.W.Frag} {mg : Str → Option Value} {base : Heap} {a a_is_integer : ASp} (d : Dfn K mg "is_chain_of" s_is_chain_of ["links", "value"]) (C_is_integer : Cal P w K mg base 1 "is_integer" ["value", "low", "high"] a_is_integer) (n_isinstance : mg "isinstance" = none) (n_list : mg "list" = none) (n_len : mg "len" = none) (n_all : mg "all" = none) (n_zip : mg "zip" = none)
    (len : ∀ us m Q, a us m Q → us.length = 2) (sem : ∀ us m Q, a us m Q → g_is_chain_of a_is_integer (endsD m.length Q) (startU 4 us) m) : Cal P w K mg base 2 "is_chain_of" ["links", "value"] a := by
  refine Cal.mk' d sc_is_chain_of len (fun f cdv A outer s H E hr hg => ?_) sem
  have nd := sc_is_chain_of.nd
  unfold g_is_chain_of
  exact (dss_cons (ds_if (PW.pt (dw_or (dt_not (dt_val (de_isi (by decide) (dv 1) n_isinstance n_list bt_list))) (dw_or1 (dt_cmp (op_eqX hr.units) (sim_eq) (dv 1) (de_lst da_nil) (nomark _))))) (dss_one (ds_ret de_bl)) dss_nil)
  (dss_cons (ds_if (dt_not (dt_val (de_callB (cr_all rfl) sim_all (by rfl) n_all bt_all (da_cons (de_lc rfl nd (di_list (dv 1)) (blkOk_by (own := [("entry", 2)]) (N := N_is_chain_of) (sc := defScope s_is_chain_of) (by decide +kernel)) rfl (gown_n 2) (fun _ _ _ _ _ => (pg_name (i := 2) nd rfl (by first | exact Or.inl rfl | exact Or.inr rfl))) (fun _ _ _ _ _ => dts_nil) (fun _ _ _ _ _ => (de_calC C_is_integer hr hg (da_cons (dv 2) (da_cons de_int (da_cons (de_op op_sub (sim_I _) (de_callB call_lenA sim_len (by rfl) n_len bt_len (da_cons (dv 0) da_nil)) de_int) da_nil)))))) da_nil)))) (dss_one (ds_ret de_bl)) dss_nil)
  (dss_one (ds_ret (de_callB (cr_all rfl) sim_all (by rfl) n_all bt_all (da_cons (de_lc rfl nd (di_zip n_zip (da_cons (dv 1) (da_cons (de_sl false (dv 1) (do_some de_int) do_none) da_nil))) (blkOk_by (own := [("entry", 2), ("later", 3)]) (N := N_is_chain_of) (sc := defScope s_is_chain_of) (by decide +kernel)) rfl (gown_2 2 3) (fun _ _ _ _ _ => (pg_tup rfl (pgs_cons (pg_name (i := 2) nd rfl (by first | exact Or.inl rfl | exact Or.inr rfl)) (pgs_cons (pg_name (i := 3) nd rfl (by first | exact Or.inl rfl | exact Or.inr rfl)) pgs_nil)))) (fun _ _ _ _ _ => dts_nil) (fun _ _ _ _ _ => (de_and (de_cmp (op_in_seq) (sim_in false) (dv 3) (de_tup (da_cons (de_op op_sub (sim_I _) (dv 2) de_int) (da_cons (de_ix (dv 0) (dv 2)) da_nil))) (by rfl)) (de_one (de_cmp (op_lt) (sim_B _) (dv 3) (dv 2) (nomark _)))))) da_nil))))))

/-! need_chain(links, value): 0 links, 1 value -/
abbrev s_need_chain : Stmt := topS 17
abbrev N_need_chain : List Str := ["links", "value"]
theorem sc_need_chain : FnScope N_need_chain ["links", "value"] (defScope s_need_chain) := ⟨rfl, rfl, rfl, by decide +kernel, rfl, by decide +kernel, by decide +kernel⟩
theorem ok_need_chain {P : Program} {w : World} {K : PySem.W.Frag} {mg : Str → Option Value} {base : Heap} {a a_is_chain_of : ASp} (d : Dfn K mg "need_chain" s_need_chain ["links", "value"]) (C_is_chain_of : Cal P w K mg base 2 "is_chain_of" ["links", "value"] a_is_chain_of)
    (len : ∀ us m Q, a us m Q → us.length = 2) (sem : ∀ us m Q, a us m Q → g_need_chain a_is_chain_of (endsD m.length Q) (startU 2 us) m) : Cal P w K mg base 3 "need_chain" ["links", "value"] a := by
  refine Cal.mk' d sc_need_chain len (fun f cdv A outer s H E hr hg => ?_) sem
  have nd := sc_need_chain.nd
  unfold g_need_chain
  exact (dss_one (ds_if (dt_not (dt_val (de_calC C_is_chain_of hr hg (da_cons (dv 0) (da_cons (dv 1) da_nil))))) (dss_one ds_never) dss_nil))

/-! next_entries(links, entry, end): 0 links, 1 entry, 2 end, 3 later -/
abbrev s_next_entries : Stmt := topS 18
abbrev N_next_entries : List Str := ["links", "entry", "end", "later"]
theorem sc_next_entries : FnScope N_next_entries ["links", "entry", "end"] (defScope s_next_entries) := ⟨rfl, rfl, rfl, by decide +kernel, rfl, by decide +kernel, by decide +kernel⟩
theorem ok_next_entries {P : Program} {w : World} {K : PySem.W.Frag} {mg : Str → Option Value} {base : Heap} {a : ASp} (d : Dfn K mg "next_entries" s_next_entries ["links", "entry", "end"]) (n_sorted : mg "sorted" = none)
    (len : ∀ us m Q, a us m Q → us.length = 3) (sem : ∀ us m Q, a us m Q → g_next_entries  (endsD m.length Q) (startU 4 us) m) : Cal P w K mg base 1 "next_entries" ["links", "entry", "end"] a := by
  refine Cal.mk' d sc_next_entries len (fun f cdv A outer s H E hr hg => ?_) sem
  have nd := sc_next_entries.nd
  unfold g_next_entries
  exact (dss_one (ds_ret (de_sortSc false n_sorted rfl nd (di_tup (de_tup (da_cons (de_ix (dv 0) (dv 1)) (da_cons (de_op op_sub (sim_I _) (dv 1) de_int) da_nil)))) (blkOk_by (own := [("later", 3)]) (N := N_next_entries) (sc := defScope s_next_entries) (by decide +kernel)) rfl (gown_n 3) (fun _ _ _ _ _ => (pg_name (i := 3) nd rfl (by first | exact Or.inl rfl | exact Or.inr rfl))) (fun _ _ _ _ _ => (dts_one (dt_cmp (op_ge) (sim_B _) (dv 3) (dv 2) (nomark _)))) (fun _ _ _ _ _ => (dv 3)))))

/-! numbers_to(links, start, end): 0 links, 1 start, 2 end, 3 found, 4 entry, 5 later -/
abbrev s_numbers_to : Stmt := topS 19
abbrev N_numbers_to : List Str := ["links", "start", "end", "found", "entry", "later"]
theorem sc_numbers_to : FnScope N_numbers_to ["links", "start", "end"] (defScope s_numbers_to) := ⟨rfl, rfl, rfl, by decide +kernel, rfl, by decide +kernel, by decide +kernel⟩
theorem ok_numbers_to {P : Program} {w : World} {K : PySem.W.Frag} {mg : Str → Option Value} {base : Heap} {a a_next_entries : ASp} (d : Dfn K mg "numbers_to" s_numbers_to ["links", "start", "end"]) (C_next_entries : Cal P w K mg base 1 "next_entries" ["links", "entry", "end"] a_next_entries) (n_range : mg "range" = none) (n_sum : mg "sum" = none)
    (len : ∀ us m Q, a us m Q → us.length = 3) (sem : ∀ us m Q, a us m Q → g_numbers_to a_next_entries (endsD m.length Q) (startU 6 us) m) : Cal P w K mg base 2 "numbers_to" ["links", "start", "end"] a := by
  refine Cal.mk' d sc_numbers_to len (fun f cdv A outer s H E hr hg => ?_) sem
  have nd := sc_numbers_to.nd
  unfold g_numbers_to b1_numbers_to
  exact (dss_cons (ds_set 3 nd (de_dctM1 (dv 2) de_int))
  (dss_cons (ds_for .never rfl (di_rng2 n_range (da_cons (de_op op_addAll (sim_add false) (dv 2) de_int) (da_cons (de_op op_addAll (sim_add false) (dv 1) de_int) da_nil))) (dg_n 4 nd)
  (dss_one (ds_dput (hu_of hr) (de_callB (cr_sum rfl) sim_sum (by rfl) n_sum bt_sum (da_cons (de_lc rfl nd (di_list (de_calC C_next_entries hr hg (da_cons (dv 0) (da_cons (dv 4) (da_cons (dv 2) da_nil))))) (blkOk_by (own := [("later", 5)]) (N := N_numbers_to) (sc := defScope s_numbers_to) (by decide +kernel)) rfl (gown_n 5) (fun _ _ _ _ _ => (pg_name (i := 5) nd rfl (by first | exact Or.inl rfl | exact Or.inr rfl))) (fun _ _ _ _ _ => dts_nil) (fun _ _ _ _ _ => (de_get (hu_of hr) (dv 3) (dv 5)))) da_nil)) (dv 3) (dv 4))))
  (dss_one (ds_ret (de_frz (dv 3))))))

/-! count_chains(links, start, end): 0 links, 1 start, 2 end -/
abbrev s_count_chains : Stmt := topS 20
abbrev N_count_chains : List Str := ["links", "start", "end"]
theorem sc_count_chains : FnScope N_count_chains ["links", "start", "end"] (defScope s_count_chains) := ⟨rfl, rfl, rfl, by decide +kernel, rfl, by decide +kernel, by decide +kernel⟩
theorem ok_count_chains {P : Program} {w : World} {K : PySem.W.Frag} {mg : Str → Option Value} {base : Heap} {a a_need_log a_need_range a_numbers_to : ASp} (d : Dfn K mg "count_chains" s_count_chains ["links", "start", "end"]) (C_need_log : Cal P w K mg base 4 "need_log" ["value"] a_need_log) (C_need_range : Cal P w K mg base 3 "need_range" ["links", "start", "end"] a_need_range) (C_numbers_to : Cal P w K mg base 2 "numbers_to" ["links", "start", "end"] a_numbers_to)
    (len : ∀ us m Q, a us m Q → us.length = 3) (sem : ∀ us m Q, a us m Q → g_count_chains a_need_log a_need_range a_numbers_to (endsD m.length Q) (startU 3 us) m) : Cal P w K mg base 5 "count_chains" ["links", "start", "end"] a := by
  refine Cal.mk' d sc_count_chains len (fun f cdv A outer s H E hr hg => ?_) sem
  have nd := sc_count_chains.nd
  unfold g_count_chains
  exact (dss_cons (ds_expr (de_calC C_need_log hr hg (da_cons (dv 0) da_nil)))
  (dss_cons (ds_expr (de_calC C_need_range hr hg (da_cons (dv 0) (da_cons (dv 1) (da_cons (dv 2) da_nil)))))
  (dss_one (ds_ret (de_get (hu_of hr) (de_calC C_numbers_to hr hg (da_cons (dv 0) (da_cons (dv 1) (da_cons (dv 2) da_nil)))) (dv 1))))))

/-! nth_chain(links, start, end, number): 0 links, 1 start, 2 end, 3 number, 4 numbers, 5 found, 6 least -/
abbrev s_nth_chain : Stmt := topS 21
abbrev N_nth_chain : List Str := ["links", "start", "end", "number", "numbers", "found", "least"]
theorem sc_nth_chain : FnScope N_nth_chain ["links", "start", "end", "number"] (defScope s_nth_chain) := ⟨rfl, rfl, rfl, by decide +kernel, rfl, by decide +kernel, by decide +kernel⟩
theorem ok_nth_chain {P : Program} {w : World} {K : PySem.W.Frag} {mg : Str → Option Value} {base : Heap} {a a_need_log a_need_range a_numbers_to a_is_integer a_next_entries : ASp} (d : Dfn K mg "nth_chain" s_nth_chain ["links", "start", "end", "number"]) (C_need_log : Cal P w K mg base 4 "need_log" ["value"] a_need_log) (C_need_range : Cal P w K mg base 3 "need_range" ["links", "start", "end"] a_need_range) (C_numbers_to : Cal P w K mg base 2 "numbers_to" ["links", "start", "end"] a_numbers_to) (C_is_integer : Cal P w K mg base 1 "is_integer" ["value", "low", "high"] a_is_integer) (C_next_entries : Cal P w K mg base 1 "next_entries" ["links", "entry", "end"] a_next_entries)
    (len : ∀ us m Q, a us m Q → us.length = 4) (sem : ∀ us m Q, a us m Q → g_nth_chain_2 a_need_log a_need_range a_numbers_to a_is_integer a_next_entries (endsD m.length Q) (startU 7 us) m) : Cal P w K mg base 5 "nth_chain" ["links", "start", "end", "number"] a := by
  refine Cal.mk' d sc_nth_chain len (fun f cdv A outer s H E hr hg => ?_) sem
  have nd := sc_nth_chain.nd
  unfold g_nth_chain_2 b1_nth_chain_2 t1_nth_chain_2
  exact (dss_cons (ds_expr (de_calC C_need_log hr hg (da_cons (dv 0) da_nil)))
  (dss_cons (ds_expr (de_calC C_need_range hr hg (da_cons (dv 0) (da_cons (dv 1) (da_cons (dv 2) da_nil)))))
  (dss_cons (ds_set 4 nd (de_calC C_numbers_to hr hg (da_cons (dv 0) (da_cons (dv 1) (da_cons (dv 2) da_nil)))))
  (dss_cons (ds_if (dt_not (dt_val (de_calC C_is_integer hr hg (da_cons (dv 3) (da_cons de_int (da_cons (de_op op_sub (sim_I _) (de_get (hu_of hr) (dv 4) (dv 1)) de_int) da_nil)))))) (dss_one ds_never) dss_nil)
  (dss_cons (ds_set 5 nd (de_lstM (da_cons (dv 1) da_nil)))
  (dss_cons (ds_while .never (dt_cmp (op_gt) (sim_B _) (de_ix (dv 5) (de_un un_neg sim_neg de_int)) (dv 2) (nomark _)) (dss_cons (ds_set 6 nd (de_ix (de_calC C_next_entries hr hg (da_cons (dv 0) (da_cons (de_ix (dv 5) (de_un un_neg sim_neg de_int)) (da_cons (dv 2) da_nil)))) de_int))
  (dss_one (ds_if (dt_cmp (op_lt) (sim_B _) (dv 3) (de_get (hu_of hr) (dv 4) (dv 6)) (nomark _)) (dss_one (ds_expr (de_meth PySem.F.slot_list_append PySem.F.type_list_append mt_append sim_append (dv 5) (da_cons (dv 6) da_nil)))) (dss_cons (ds_aug 3 nd iop_sub (sim_I _) (de_get (hu_of hr) (dv 4) (dv 6)))
  (dss_one (ds_expr (de_meth PySem.F.slot_list_append PySem.F.type_list_append mt_append sim_append (dv 5) (da_cons (de_op op_sub (sim_I _) (de_ix (dv 5) (de_un un_neg sim_neg de_int)) de_int) da_nil)))))))))
  (dss_one (ds_ret (dv 5)))))))))

/-! chain_number(links, chain): 0 links, 1 chain, 2 numbers, 3 found, 4 entry, 5 later, 6 least -/
abbrev s_chain_number : Stmt := topS 22
abbrev N_chain_number : List Str := ["links", "chain", "numbers", "found", "entry", "later", "least"]
theorem sc_chain_number : FnScope N_chain_number ["links", "chain"] (defScope s_chain_number) := ⟨rfl, rfl, rfl, by decide +kernel, rfl, by decide +kernel, by decide +kernel⟩
theorem ok_chain_number {P : Program} {w : World} {K : PySem.W.Frag} {mg : Str → Option Value} {base : Heap} {a a_need_log a_need_chain a_numbers_to a_next_entries : ASp} (d : Dfn K mg "chain_number" s_chain_number ["links", "chain"]) (C_need_log : Cal P w K mg base 4 "need_log" ["value"] a_need_log) (C_need_chain : Cal P w K mg base 3 "need_chain" ["links", "value"] a_need_chain) (C_numbers_to : Cal P w K mg base 2 "numbers_to" ["links", "start", "end"] a_numbers_to) (C_next_entries : Cal P w K mg base 1 "next_entries" ["links", "entry", "end"] a_next_entries) (n_zip : mg "zip" = none)
    (len : ∀ us m Q, a us m Q → us.length = 2) (sem : ∀ us m Q, a us m Q → g_chain_number a_need_log a_need_chain a_numbers_to a_next_entries (endsD m.length Q) (startU 7 us) m) : Cal P w K mg base 5 "chain_number" ["links", "chain"] a := by
  refine Cal.mk' d sc_chain_number len (fun f cdv A outer s H E hr hg => ?_) sem
  have nd := sc_chain_number.nd
  unfold g_chain_number b1_chain_number
  exact (dss_cons (ds_expr (de_calC C_need_log hr hg (da_cons (dv 0) da_nil)))
  (dss_cons (ds_expr (de_calC C_need_chain hr hg (da_cons (dv 0) (da_cons (dv 1) da_nil))))
  (dss_cons (ds_set 2 nd (de_calC C_numbers_to hr hg (da_cons (dv 0) (da_cons (de_ix (dv 1) de_int) (da_cons (de_ix (dv 1) (de_un un_neg sim_neg de_int)) da_nil)))))
  (dss_cons (ds_set 3 nd de_int)
  (dss_cons (ds_for .never rfl (di_zip n_zip (da_cons (dv 1) (da_cons (de_sl false (dv 1) (do_some de_int) do_none) da_nil))) (dg_tup rfl (dgs_cons (dg_n 4 nd) (dgs_cons (dg_n 5 nd) dgs_nil)))
  (dss_cons (ds_set 6 nd (de_ix (de_calC C_next_entries hr hg (da_cons (dv 0) (da_cons (dv 4) (da_cons (de_ix (dv 1) (de_un un_neg sim_neg de_int)) da_nil)))) de_int))
  (dss_one (ds_aug 3 nd iop_add (sim_I _) (de_if (dt_cmp (op_gt) (sim_B _) (dv 5) (dv 6) (nomark _)) (de_get (hu_of hr) (dv 2) (dv 6)) de_int)))))
  (dss_one (ds_ret (dv 3))))))))

/-! _law_vat(script, k): 0 script, 1 k, 2 cell -/
abbrev s_law_vat : Stmt := topS 24
abbrev N_law_vat : List Str := ["script", "k", "cell"]
theorem sc_law_vat : FnScope N_law_vat ["script", "k"] (defScope s_law_vat) := ⟨rfl, rfl, rfl, by decide +kernel, rfl, by decide +kernel, by decide +kernel⟩
theorem ok_law_vat {P : Program} {w : World} {K : PySem.W.Frag} {mg : Str → Option Value} {base : Heap} {a : ASp} (d : Dfn K mg "_law_vat" s_law_vat ["script", "k"]) (n_len : mg "len" = none) (n_abs : mg "abs" = none) (n_max : mg "max" = none)
    (len : ∀ us m Q, a us m Q → us.length = 2) (sem : ∀ us m Q, a us m Q → g_law_vat  (endsD m.length Q) (startU 3 us) m) : Cal P w K mg base 1 "_law_vat" ["script", "k"] a := by
  refine Cal.mk' d sc_law_vat len (fun f cdv A outer s H E hr hg => ?_) sem
  have nd := sc_law_vat.nd
  unfold g_law_vat
  exact (dss_cons (ds_set 2 nd (de_if (dt_cmp (op_lt) (sim_B _) (dv 1) (de_callB call_lenA sim_len (by rfl) n_len bt_len (da_cons (dv 0) da_nil)) (nomark _)) (de_ix (dv 0) (dv 1)) de_int))
  (dss_one (ds_ret (de_lstM (da_cons (de_callB (call_maxA rfl) sim_max (by rfl) n_max bt_max (da_cons de_int (da_cons (de_op op_sub (sim_I _) (de_callB call_abs sim_abs (by rfl) n_abs bt_abs (da_cons (dv 2) da_nil)) (de_op op_powZ (sim_Ic _ _) de_int de_int)) da_nil))) (da_cons (de_op op_addAll (sim_add false) (de_op op_addAll (sim_add false) (de_op op_mulAll (sim_mul false) (de_op op_mod (sim_Ic _ _) (dv 2) (de_op op_addAll (sim_add false) (de_op op_powZ (sim_Ic _ _) de_int de_int) de_int)) de_int) (de_op op_mulAll (sim_mul false) de_int (dv 1))) de_int) (da_cons de_int da_nil)))))))

/-! _law_drip(vat, many): 0 vat, 1 many, 2 found, 3 drop -/
abbrev s_law_drip : Stmt := topS 25
abbrev N_law_drip : List Str := ["vat", "many", "found", "drop"]
theorem sc_law_drip : FnScope N_law_drip ["vat", "many"] (defScope s_law_drip) := ⟨rfl, rfl, rfl, by decide +kernel, rfl, by decide +kernel, by decide +kernel⟩
theorem ok_law_drip {P : Program} {w : World} {K : PySem.W.Frag} {mg : Str → Option Value} {base : Heap} {a : ASp} (d : Dfn K mg "_law_drip" s_law_drip ["vat", "many"]) 
    (len : ∀ us m Q, a us m Q → us.length = 2) (sem : ∀ us m Q, a us m Q → g_law_drip  (endsD m.length Q) (startU 4 us) m) : Cal P w K mg base 1 "_law_drip" ["vat", "many"] a := by
  refine Cal.mk' d sc_law_drip len (fun f cdv A outer s H E hr hg => ?_) sem
  have nd := sc_law_drip.nd
  unfold g_law_drip
  exact (dss_cons (ds_if (dt_cmp (op_gt) (sim_B _) (de_ix (dv 0) de_int) de_int (nomark _)) (dss_cons (ds_set 2 nd (de_op op_mod (sim_Ic _ _) (de_ix (dv 0) de_int) (dv 1)))
  (dss_cons (ds_setix (de_op op_div (sim_Ic _ _) (de_ix (dv 0) de_int) (dv 1)) (dv 0) de_int)
  (dss_one (ds_ret (dv 2))))) dss_nil)
  (dss_cons (ds_setix (de_op op_addAll (sim_add false) (de_ix (dv 0) de_int) de_int) (dv 0) de_int)
  (dss_cons (ds_set 3 nd (de_op op_mod (sim_Ic _ _) (de_op op_powZ (sim_Ic _ _) (de_op op_addAll (sim_add false) (de_ix (dv 0) de_int) (de_op op_mulAll (sim_mul false) de_int (de_ix (dv 0) de_int))) de_int) (de_op op_addAll (sim_add false) (de_op op_powZ (sim_Ic _ _) de_int de_int) de_int)))
  (dss_cons (ds_set 3 nd (de_op op_mod (sim_Ic _ _) (de_op op_powZ (sim_Ic _ _) (de_op op_addAll (sim_add false) (dv 3) (de_op op_mulAll (sim_mul false) de_int (de_ix (dv 0) de_int))) de_int) (de_op op_addAll (sim_add false) (de_op op_powZ (sim_Ic _ _) de_int de_int) de_int)))
  (dss_one (ds_ret (de_op op_mod (sim_Ic _ _) (de_op op_div (sim_Ic _ _) (dv 3) de_int) (dv 1))))))))

/-! _law_log(vat, size): 0 vat, 1 size, 2 found, 3 allowed, 4 way, 5 entry, 6 most, 7 spots, 8 spot -/
abbrev s_law_log : Stmt := topS 26
abbrev N_law_log : List Str := ["vat", "size", "found", "allowed", "way", "entry", "most", "spots", "spot"]
theorem sc_law_log : FnScope N_law_log ["vat", "size"] (defScope s_law_log) := ⟨rfl, rfl, rfl, by decide +kernel, rfl, by decide +kernel, by decide +kernel⟩
theorem ok_law_log {P : Program} {w : World} {K : PySem.W.Frag} {mg : Str → Option Value} {base : Heap} {a a_law_drip : ASp} (d : Dfn K mg "_law_log" s_law_log ["vat", "size"]) (C_law_drip : Cal P w K mg base 1 "_law_drip" ["vat", "many"] a_law_drip) (n_range : mg "range" = none) (n_len : mg "len" = none) (n_max : mg "max" = none)
    (len : ∀ us m Q, a us m Q → us.length = 2) (sem : ∀ us m Q, a us m Q → g_law_log_4 a_law_drip (endsD m.length Q) (startU 9 us) m) : Cal P w K mg base 2 "_law_log" ["vat", "size"] a := by
  refine Cal.mk' d sc_law_log len (fun f cdv A outer s H E hr hg => ?_) sem
  have nd := sc_law_log.nd
  unfold g_law_log_4 b1_law_log_4
  exact (dss_cons (ds_par3 2 3 4 rfl nd (da_cons (de_lstM (da_cons de_int da_nil)) (da_cons (de_lst (da_cons de_int da_nil)) (da_cons (de_calC C_law_drip hr hg (da_cons (dv 0) (da_cons de_int da_nil))) da_nil))))
  (dss_cons (ds_for .never rfl (di_rng2 n_range (da_cons de_int (da_cons (dv 1) da_nil))) (dg_n 5 nd)
  (dss_cons (ds_set 6 nd (de_op op_sub (sim_I _) (de_callB call_lenA sim_len (by rfl) n_len bt_len (da_cons (dv 3) da_nil)) de_int))
  (dss_cons (ds_set 7 nd (de_lst (da_cons (de_calC C_law_drip hr hg (da_cons (dv 0) (da_cons (de_op op_addAll (sim_add false) (dv 6) de_int) da_nil))) (da_cons (dv 6) (da_cons de_int (da_cons (de_callB (call_maxA rfl) sim_max (by rfl) n_max bt_max (da_cons de_int (da_cons (de_op op_sub (sim_I _) (dv 6) (de_calC C_law_drip hr hg (da_cons (dv 0) (da_cons de_int da_nil)))) da_nil))) da_nil))))))
  (dss_cons (ds_set 7 nd (de_op op_addAll (sim_add false) (dv 7) (de_lst (da_cons (de_op op_mulAll (sim_mul false) (dv 6) (de_calC C_law_drip hr hg (da_cons (dv 0) (da_cons de_int da_nil)))) (da_cons (de_op op_div (sim_Ic _ _) (dv 6) de_int) da_nil)))))
  (dss_cons (ds_set 8 nd (de_if (dt_cmp (op_gt) (sim_B _) (de_calC C_law_drip hr hg (da_cons (dv 0) (da_cons de_int da_nil))) de_int (nomark _)) (de_ix (dv 7) (dv 4)) (de_calC C_law_drip hr hg (da_cons (dv 0) (da_cons (de_op op_addAll (sim_add false) (dv 6) de_int) da_nil)))))
  (dss_cons (ds_expr (de_meth PySem.F.slot_list_append PySem.F.type_list_append mt_append sim_append (dv 2) (da_cons (de_ix (dv 3) (dv 8)) da_nil)))
  (dss_one (ds_set 3 nd (de_op op_addAll (sim_add false) (de_sl false (dv 3) do_none (do_some (de_op op_addAll (sim_add false) (dv 8) de_int))) (de_lst (da_cons (dv 5) da_nil)))))))))))
  (dss_one (ds_ret (dv 2)))))

/-! _law_next(links, entry, end): 0 links, 1 entry, 2 end, 3 later -/
abbrev s_law_next : Stmt := topS 27
abbrev N_law_next : List Str := ["links", "entry", "end", "later"]
theorem sc_law_next : FnScope N_law_next ["links", "entry", "end"] (defScope s_law_next) := ⟨rfl, rfl, rfl, by decide +kernel, rfl, by decide +kernel, by decide +kernel⟩
theorem ok_law_next {P : Program} {w : World} {K : PySem.W.Frag} {mg : Str → Option Value} {base : Heap} {a : ASp} (d : Dfn K mg "_law_next" s_law_next ["links", "entry", "end"]) (n_sorted : mg "sorted" = none) (n_set : mg "set" = none)
    (len : ∀ us m Q, a us m Q → us.length = 3) (sem : ∀ us m Q, a us m Q → g_law_next  (endsD m.length Q) (startU 4 us) m) : Cal P w K mg base 1 "_law_next" ["links", "entry", "end"] a := by
  refine Cal.mk' d sc_law_next len (fun f cdv A outer s H E hr hg => ?_) sem
  have nd := sc_law_next.nd
  unfold g_law_next
  exact (dss_one (ds_ret (de_lc rfl nd (di_list (de_sortSet false rfl n_sorted n_set (de_lst (da_cons (de_ix (dv 0) (dv 1)) (da_cons (de_op op_sub (sim_I _) (dv 1) de_int) da_nil))))) (blkOk_by (own := [("later", 3)]) (N := N_law_next) (sc := defScope s_law_next) (by decide +kernel)) rfl (gown_n 3) (fun _ _ _ _ _ => (pg_name (i := 3) nd rfl (by first | exact Or.inl rfl | exact Or.inr rfl))) (fun _ _ _ _ _ => (dts_one (dt_chain (op_le) (sim_B _) (op_lt) (sim_B _) (dv 2) (dv 3) (dv 1)))) (fun _ _ _ _ _ => (dv 3)))))

/-! _law_range(vat, size): 0 vat, 1 size, 2 start -/
abbrev s_law_range : Stmt := topS 29
abbrev N_law_range : List Str := ["vat", "size", "start"]
theorem sc_law_range : FnScope N_law_range ["vat", "size"] (defScope s_law_range) := ⟨rfl, rfl, rfl, by decide +kernel, rfl, by decide +kernel, by decide +kernel⟩
theorem ok_law_range {P : Program} {w : World} {K : PySem.W.Frag} {mg : Str → Option Value} {base : Heap} {a a_law_drip : ASp} (d : Dfn K mg "_law_range" s_law_range ["vat", "size"]) (C_law_drip : Cal P w K mg base 1 "_law_drip" ["vat", "many"] a_law_drip) (n_max : mg "max" = none)
    (len : ∀ us m Q, a us m Q → us.length = 2) (sem : ∀ us m Q, a us m Q → g_law_range a_law_drip (endsD m.length Q) (startU 3 us) m) : Cal P w K mg base 2 "_law_range" ["vat", "size"] a := by
  refine Cal.mk' d sc_law_range len (fun f cdv A outer s H E hr hg => ?_) sem
  have nd := sc_law_range.nd
  unfold g_law_range
  exact (dss_cons (ds_set 2 nd (de_ix (de_lst (da_cons (de_op op_sub (sim_I _) (dv 1) de_int) (da_cons (de_calC C_law_drip hr hg (da_cons (dv 0) (da_cons (dv 1) da_nil))) da_nil))) (de_calC C_law_drip hr hg (da_cons (dv 0) (da_cons de_int da_nil)))))
  (dss_one (ds_ret (de_tup (da_cons (dv 2) (da_cons (de_ix (de_lst (da_cons de_int (da_cons (de_calC C_law_drip hr hg (da_cons (dv 0) (da_cons (de_op op_addAll (sim_add false) (dv 2) de_int) da_nil))) (da_cons (de_callB (call_maxA rfl) sim_max (by rfl) n_max bt_max (da_cons de_int (da_cons (de_op op_sub (sim_I _) (dv 2) de_int) da_nil))) da_nil)))) (de_calC C_law_drip hr hg (da_cons (dv 0) (da_cons de_int da_nil)))) da_nil))))))

/-! _law_every(links, start, end): 0 links, 1 start, 2 end, 3 found, 4 later, 5 rest -/
abbrev s_law_every : Stmt := topS 31
abbrev N_law_every : List Str := ["links", "start", "end", "found", "later", "rest"]
theorem sc_law_every : FnScope N_law_every ["links", "start", "end"] (defScope s_law_every) := ⟨rfl, rfl, rfl, by decide +kernel, rfl, by decide +kernel, by decide +kernel⟩
theorem ok_law_every {P : Program} {w : World} {K : PySem.W.Frag} {mg : Str → Option Value} {base : Heap} {k : Nat} {a a_law_next a_law_every : ASp} (d : Dfn K mg "_law_every" s_law_every ["links", "start", "end"]) (C_law_next : Cal P w K mg base 1 "_law_next" ["links", "entry", "end"] a_law_next) (C_law_every : Cal P w K mg base k "_law_every" ["links", "start", "end"] a_law_every) (hL : 1 ≤ k)
    (len : ∀ us m Q, a us m Q → us.length = 3) (sem : ∀ us m Q, a us m Q → g_law_every a_law_next a_law_every (endsD m.length Q) (startU 6 us) m) : Cal P w K mg base (k + 1) "_law_every" ["links", "start", "end"] a := by
  refine Cal.mk' d sc_law_every len (fun f cdv A outer s H E hr hg => ?_) sem
  have nd := sc_law_every.nd
  unfold g_law_every b1_law_every
  exact (dss_cons (ds_if (dt_cmp (op_eqX hr.units) (sim_eq) (dv 1) (dv 2) (nomark _)) (dss_one (ds_ret (de_lst (da_cons (de_lst (da_cons (dv 2) da_nil)) da_nil)))) dss_nil)
  (dss_cons (ds_set 3 nd (de_lstM da_nil))
  (dss_cons (ds_for .never rfl (di_list (de_calC (hk := by omega) C_law_next hr hg (da_cons (dv 0) (da_cons (dv 1) (da_cons (dv 2) da_nil))))) (dg_n 4 nd)
  (dss_one (ds_expr (de_meth PySem.F.slot_list_extend PySem.F.type_list_extend mt_extend sim_extend (dv 3) (da_cons (de_lc rfl nd (di_list (de_calC (hk := by omega) C_law_every hr hg (da_cons (dv 0) (da_cons (dv 4) (da_cons (dv 2) da_nil))))) (blkOk_by (own := [("rest", 5)]) (N := N_law_every) (sc := defScope s_law_every) (by decide +kernel)) rfl (gown_n 5) (fun _ _ _ _ _ => (pg_name (i := 5) nd rfl (by first | exact Or.inl rfl | exact Or.inr rfl))) (fun _ _ _ _ _ => dts_nil) (fun _ _ _ _ _ => (de_op op_addAll (sim_add false) (de_lst (da_cons (dv 1) da_nil)) (dv 5)))) da_nil)))))
  (dss_one (ds_ret (de_frz (dv 3)))))))

/-! _law_right(links, start, end): 0 links, 1 start, 2 end, 3 rows, 4 kept, 5 number, 6 again, 7 told -/
abbrev s_law_right : Stmt := topS 32
abbrev N_law_right : List Str := ["links", "start", "end", "rows", "kept", "number", "again", "told"]
theorem sc_law_right : FnScope N_law_right ["links", "start", "end"] (defScope s_law_right) := ⟨rfl, rfl, rfl, by decide +kernel, rfl, by decide +kernel, by decide +kernel⟩
def b1_law_right (a_law_every a_count_chains a_nth_chain a_chain_number : ASp) : AS :=
  (dSeq (dAsg 7 (dCall a_nth_chain (dCons (dVar 0) (dCons (dVar 1) (dCons (dVar 2) (dCons (dVar 5) dNil))))))
  (dSeq (dIfS (dOr (dB (dOp (aNe) (dCB aReprX (dCons (dVar 7) dNil)) (dCB aReprX (dCons (dOp aIx (dVar 3) (dVar 5)) dNil)))) (dB (dOp (aNe) (dCB aReprX (dCons (dCall a_chain_number (dCons (dVar 0) (dCons (dVar 7) dNil))) dNil)) (dCB aReprX (dCons (dVar 5) dNil))))) (dRet (dC (.bool false))) dNext)
  (dSeq (dIfS (dB (dOp (aNe) (dCB aReprX (dCons (dVar 0) dNil)) (dVar 4))) (dRet (dC (.bool false))) dNext)
  (dExpr (dMeth aAppend (dVar 7) (dCons (dC (.str "more")) dNil))))))
def b2_law_right (a_law_every a_count_chains a_nth_chain a_chain_number : ASp) : AS :=
  (dFor (sRng1 (dCons (dC (.int 2)) dNil)) (gN 6)
  (b1_law_right a_law_every a_count_chains a_nth_chain a_chain_number))
def g_law_right (a_law_every a_count_chains a_nth_chain a_chain_number : ASp) : AS :=
  (dSeq (dPar2 3 4 (dCons (dCall a_law_every (dCons (dVar 0) (dCons (dVar 1) (dCons (dVar 2) dNil)))) (dCons (dCB aReprX (dCons (dVar 0) dNil)) dNil)))
  (dSeq (dIfS (dOr (dB (dOp (aNe) (dVar 3) (dCB (aSortD false) (dCons (dVar 3) dNil)))) (dB (dOp (aNe) (dCB aReprX (dCons (dCall a_count_chains (dCons (dVar 0) (dCons (dVar 1) (dCons (dVar 2) dNil)))) dNil)) (dCB aReprX (dCons (dCB aLen (dCons (dVar 3) dNil)) dNil))))) (dRet (dC (.bool false))) dNext)
  (dSeq (dFor (sRngS (dCons (dC (.int 0)) (dCons (dCB aLen (dCons (dVar 3) dNil)) (dCons (dOp (aAdd false) (dC (.int 1)) (dOp aDiv (dCB aLen (dCons (dVar 3) dNil)) (dC (.int 20)))) dNil)))) (gN 5)
  (b2_law_right a_law_every a_count_chains a_nth_chain a_chain_number))
  (dRet (dC (.bool true))))))
theorem ok_law_right {P : Program} {w : World} {K : PySem.W.Frag} {mg : Str → Option Value} {base : Heap} {a a_law_every a_count_chains a_nth_chain a_chain_number : ASp} (d : Dfn K mg "_law_right" s_law_right ["links", "start", "end"]) (C_law_every : Cal P w K mg base 14 "_law_every" ["links", "start", "end"] a_law_every) (C_count_chains : Cal P w K mg base 5 "count_chains" ["links", "start", "end"] a_count_chains) (C_nth_chain : Cal P w K mg base 5 "nth_chain" ["links", "start", "end", "number"] a_nth_chain) (C_chain_number : Cal P w K mg base 5 "chain_number" ["links", "chain"] a_chain_number) (n_repr : mg "repr" = none) (n_sorted : mg "sorted" = none) (n_len : mg "len" = none) (n_range : mg "range" = none)
    (len : ∀ us m Q, a us m Q → us.length = 3) (sem : ∀ us m Q, a us m Q → g_law_right a_law_every a_count_chains a_nth_chain a_chain_number (endsD m.length Q) (startU 8 us) m) : Cal P w K mg base 15 "_law_right" ["links", "start", "end"] a := by
  refine Cal.mk' d sc_law_right len (fun f cdv A outer s H E hr hg => ?_) sem
  have nd := sc_law_right.nd
  unfold g_law_right b2_law_right b1_law_right
  exact (dss_cons (ds_par2 3 4 rfl nd (da_cons (de_calC C_law_every hr hg (da_cons (dv 0) (da_cons (dv 1) (da_cons (dv 2) da_nil)))) (da_cons (de_callB (call_reprX (u66 hr) hg) sim_reprX (by rfl) n_repr bt_repr (da_cons (dv 0) da_nil)) da_nil)))
  (dss_cons (ds_if (PW.pt (dw_or (dt_cmp (op_neX hr.units) (sim_ne) (dv 3) (de_callB (cr_sortD (u66 hr)) (sim_sortD false) (by rfl) n_sorted bt_sorted (da_cons (dv 3) da_nil)) (nomark _)) (dw_or1 (dt_cmp (op_neX hr.units) (sim_ne) (de_callB (call_reprX (u66 hr) hg) sim_reprX (by rfl) n_repr bt_repr (da_cons (de_calC C_count_chains hr hg (da_cons (dv 0) (da_cons (dv 1) (da_cons (dv 2) da_nil)))) da_nil)) (de_callB (call_reprX (u66 hr) hg) sim_reprX (by rfl) n_repr bt_repr (da_cons (de_callB call_lenA sim_len (by rfl) n_len bt_len (da_cons (dv 3) da_nil)) da_nil)) (nomark _))))) (dss_one (ds_ret de_bl)) dss_nil)
  (dss_cons (ds_for .never rfl (di_rngS n_range (da_cons de_int (da_cons (de_callB call_lenA sim_len (by rfl) n_len bt_len (da_cons (dv 3) da_nil)) (da_cons (de_op op_addAll (sim_add false) de_int (de_op op_div (sim_Ic _ _) (de_callB call_lenA sim_len (by rfl) n_len bt_len (da_cons (dv 3) da_nil)) de_int)) da_nil)))) (dg_n 5 nd)
  (dss_one (ds_for .never rfl (di_rng1 n_range (da_cons de_int da_nil)) (dg_n 6 nd)
  (dss_cons (ds_set 7 nd (de_calC C_nth_chain hr hg (da_cons (dv 0) (da_cons (dv 1) (da_cons (dv 2) (da_cons (dv 5) da_nil))))))
  (dss_cons (ds_if (PW.pt (dw_or (dt_cmp (op_neX hr.units) (sim_ne) (de_callB (call_reprX (u66 hr) hg) sim_reprX (by rfl) n_repr bt_repr (da_cons (dv 7) da_nil)) (de_callB (call_reprX (u66 hr) hg) sim_reprX (by rfl) n_repr bt_repr (da_cons (de_ix (dv 3) (dv 5)) da_nil)) (nomark _)) (dw_or1 (dt_cmp (op_neX hr.units) (sim_ne) (de_callB (call_reprX (u66 hr) hg) sim_reprX (by rfl) n_repr bt_repr (da_cons (de_calC C_chain_number hr hg (da_cons (dv 0) (da_cons (dv 7) da_nil))) da_nil)) (de_callB (call_reprX (u66 hr) hg) sim_reprX (by rfl) n_repr bt_repr (da_cons (dv 5) da_nil)) (nomark _))))) (dss_one (ds_ret de_bl)) dss_nil)
  (dss_cons (ds_if (dt_cmp (op_neX hr.units) (sim_ne) (de_callB (call_reprX (u66 hr) hg) sim_reprX (by rfl) n_repr bt_repr (da_cons (dv 0) da_nil)) (dv 4) (nomark _)) (dss_one (ds_ret de_bl)) dss_nil)
  (dss_one (ds_expr (de_meth PySem.F.slot_list_append PySem.F.type_list_append mt_append sim_append (dv 7) (da_cons de_str da_nil))))))))))
  (dss_one (ds_ret de_bl)))))

/-! law(script): 0 script, 1 k, 2 vat, 3 turn, 4 size, 5 links, 6 start, 7 end -/
abbrev s_law : Stmt := topS 33
abbrev N_law : List Str := ["script", "k", "vat", "turn", "size", "links", "start", "end"]
theorem sc_law : FnScope N_law ["script"] (defScope s_law) := ⟨rfl, rfl, rfl, by decide +kernel, rfl, by decide +kernel, by decide +kernel⟩
def b1_law (a_law_vat a_law_drip a_law_log a_law_range a_law_right a_count_chains a_nth_chain : ASp) : AS :=
  (dSeq (dAsg 4 (dOp (aAdd false) (dC (.int 1)) (dCall a_law_drip (dCons (dVar 2) (dCons (dC (.int 9)) dNil)))))
  (dSeq (dAsg 5 (dCall a_law_log (dCons (dVar 2) (dCons (dVar 4) dNil))))
  (dSeq (dAsgG (gT 2 (gN1 (gN 6) (gN1 (gN 7) gN0))) (dCall a_law_range (dCons (dVar 2) (dCons (dVar 4) dNil))))
  (dSeq (dIfS (dOr (dNot (dB (dCall a_law_right (dCons (dVar 5) (dCons (dVar 6) (dCons (dVar 7) dNil)))))) (dNot (dB (dCall a_law_right (dCons (dVar 5) (dCons (dOp aSub (dVar 4) (dC (.int 1))) (dCons (dC (.int 0)) dNil))))))) (dRet (dC (.bool false))) dNext)
  (dSeq (dSetIx (dC (.int 0)) (dVar 5) (dOp aSub (dVar 4) (dC (.int 1))))
  (dIfS (dNot (dB (dCall a_law_right (dCons (dVar 5) (dCons (dOp aSub (dVar 4) (dC (.int 1))) (dCons (dC (.int 0)) dNil)))))) (dRet (dC (.bool false))) dNext))))))
def b2_law (a_law_vat a_law_drip a_law_log a_law_range a_law_right a_count_chains a_nth_chain : ASp) : AS :=
  (dSeq (dAsg 2 (dCall a_law_vat (dCons (dVar 0) (dCons (dVar 1) dNil))))
  (dFor (sRng1 (dCons (dC (.int 3)) dNil)) (gN 3)
  (b1_law a_law_vat a_law_drip a_law_log a_law_range a_law_right a_count_chains a_nth_chain)))
def g_law (a_law_vat a_law_drip a_law_log a_law_range a_law_right a_count_chains a_nth_chain : ASp) : AS :=
  (dSeq (dFor (sRng1 (dCons (dCB aMax (dCons (dC (.int 1)) (dCons (dCB aMin (dCons (dC (.int 5)) (dCons (dCB aLen (dCons (dVar 0) dNil)) dNil))) dNil))) dNil)) (gN 1)
  (b2_law a_law_vat a_law_drip a_law_log a_law_range a_law_right a_count_chains a_nth_chain))
  (dSeq (dAsg 5 (dLstM (dCons (dC (.int 0)) (dCons (dC (.int 0)) (dCons (dC (.int 0)) (dCons (dC (.int 2)) (dCons (dC (.int 3)) (dCons (dC (.int 2)) (dCons (dC (.int 0)) dNil)))))))))
  (dRet (dAndV (dOp (aEq) (dCall a_count_chains (dCons (dVar 5) (dCons (dC (.int 5)) (dCons (dC (.int 0)) dNil)))) (dC (.int 4))) (dOp (aEq) (dFrz (dCall a_nth_chain (dCons (dVar 5) (dCons (dC (.int 5)) (dCons (dC (.int 0)) (dCons (dC (.int 1)) dNil)))))) (dLst (dCons (dC (.int 5)) (dCons (dC (.int 2)) (dCons (dC (.int 1)) (dCons (dC (.int 0)) dNil))))))))))
theorem ok_law {P : Program} {w : World} {K : PySem.W.Frag} {mg : Str → Option Value} {base : Heap} {a a_law_vat a_law_drip a_law_log a_law_range a_law_right a_count_chains a_nth_chain : ASp} (d : Dfn K mg "law" s_law ["script"]) (C_law_vat : Cal P w K mg base 1 "_law_vat" ["script", "k"] a_law_vat) (C_law_drip : Cal P w K mg base 1 "_law_drip" ["vat", "many"] a_law_drip) (C_law_log : Cal P w K mg base 2 "_law_log" ["vat", "size"] a_law_log) (C_law_range : Cal P w K mg base 2 "_law_range" ["vat", "size"] a_law_range) (C_law_right : Cal P w K mg base 15 "_law_right" ["links", "start", "end"] a_law_right) (C_count_chains : Cal P w K mg base 5 "count_chains" ["links", "start", "end"] a_count_chains) (C_nth_chain : Cal P w K mg base 5 "nth_chain" ["links", "start", "end", "number"] a_nth_chain) (n_len : mg "len" = none) (n_min : mg "min" = none) (n_max : mg "max" = none) (n_range : mg "range" = none)
    (len : ∀ us m Q, a us m Q → us.length = 1) (sem : ∀ us m Q, a us m Q → g_law a_law_vat a_law_drip a_law_log a_law_range a_law_right a_count_chains a_nth_chain (endsD m.length Q) (startU 8 us) m) : Cal P w K mg base 16 "law" ["script"] a := by
  refine Cal.mk' d sc_law len (fun f cdv A outer s H E hr hg => ?_) sem
  have nd := sc_law.nd
  unfold g_law b2_law b1_law
  exact (dss_cons (ds_for .never rfl (di_rng1 n_range (da_cons (de_callB (call_maxA rfl) sim_max (by rfl) n_max bt_max (da_cons de_int (da_cons (de_callB (call_minA rfl) sim_min (by rfl) n_min bt_min (da_cons de_int (da_cons (de_callB call_lenA sim_len (by rfl) n_len bt_len (da_cons (dv 0) da_nil)) da_nil))) da_nil))) da_nil)) (dg_n 1 nd)
  (dss_cons (ds_set 2 nd (de_calC C_law_vat hr hg (da_cons (dv 0) (da_cons (dv 1) da_nil))))
  (dss_one (ds_for .never rfl (di_rng1 n_range (da_cons de_int da_nil)) (dg_n 3 nd)
  (dss_cons (ds_set 4 nd (de_op op_addAll (sim_add false) de_int (de_calC C_law_drip hr hg (da_cons (dv 2) (da_cons de_int da_nil)))))
  (dss_cons (ds_set 5 nd (de_calC C_law_log hr hg (da_cons (dv 2) (da_cons (dv 4) da_nil))))
  (dss_cons (ds_asg (de_calC C_law_range hr hg (da_cons (dv 2) (da_cons (dv 4) da_nil))) (dg_tup rfl (dgs_cons (dg_n 6 nd) (dgs_cons (dg_n 7 nd) dgs_nil))))
  (dss_cons (ds_if (PW.pt (dw_or (dt_not (dt_val (de_calC C_law_right hr hg (da_cons (dv 5) (da_cons (dv 6) (da_cons (dv 7) da_nil)))))) (dw_or1 (dt_not (dt_val (de_calC C_law_right hr hg (da_cons (dv 5) (da_cons (de_op op_sub (sim_I _) (dv 4) de_int) (da_cons de_int da_nil))))))))) (dss_one (ds_ret de_bl)) dss_nil)
  (dss_cons (ds_setix de_int (dv 5) (de_op op_sub (sim_I _) (dv 4) de_int))
  (dss_one (ds_if (dt_not (dt_val (de_calC C_law_right hr hg (da_cons (dv 5) (da_cons (de_op op_sub (sim_I _) (dv 4) de_int) (da_cons de_int da_nil)))))) (dss_one (ds_ret de_bl)) dss_nil)))))))))))
  (dss_cons (ds_set 5 nd (de_lstM (da_cons de_int (da_cons de_int (da_cons de_int (da_cons de_int (da_cons de_int (da_cons de_int (da_cons de_int da_nil)))))))))
  (dss_one (ds_ret (de_and (de_cmp (op_eqX hr.units) (sim_eq) (de_calC C_count_chains hr hg (da_cons (dv 5) (da_cons de_int (da_cons de_int da_nil)))) de_int (nomark _)) (de_one (de_cmp (op_eqX hr.units) (sim_eq) (de_frz (de_calC C_nth_chain hr hg (da_cons (dv 5) (da_cons de_int (da_cons de_int (da_cons de_int da_nil)))))) (de_lst (da_cons de_int (da_cons de_int (da_cons de_int (da_cons de_int da_nil))))) (nomark _))))))))
end Z.K09
/-! Z7: words for the readings' proofs. -/
namespace Z
open PySem PySem.Spec PyProof.Rows L2
theorem asD_v (m : Sto) (d : PyData) : asD m (.v d) = some d := rfl
theorem asL_v (m : Sto) (l : List PyData) : asL m (.v (.list l)) = some l := rfl
theorem asQ_v (m : Sto) (l : List PyData) : asQ m (.v (.list l)) = some l := rfl
theorem asQ_s (m : Sto) (l : List Int) : asQ m (.s l) = some (l.map .int) := rfl
theorem asQ_r (m : Sto) (k : Nat) : asQ m (.r k) = asL m (.r k) := rfl
theorem asS_v (m : Sto) (l : List PyData) : asS m (.v (.list l)) = some l := rfl
theorem asS_t (m : Sto) (l : List PyData) : asS m (.v (.tuple l)) = some l := rfl
theorem asS_s (m : Sto) (l : List Int) : asS m (.s l) = some (l.map .int) := rfl
theorem asS_r (m : Sto) (k : Nat) : asS m (.r k) = asL m (.r k) := rfl
theorem asL_r (m : Sto) (k : Nat) : asL m (.r k) = match m[k]? with
  | some (.lst l) => some l
  | _ => none := rfl
theorem asD_r (m : Sto) (k : Nat) : asD m (.r k) = match m[k]? with
  | some (.lst l) => some (.list l)
  | some (.dct l) => some (.dict l)
  | _ => none := rfl
theorem asL_rk {m : Sto} {k : Nat} {l : List PyData} (h : m[k]? = some (.lst l)) : asL m (.r k) = some l := by simp [asL, h]
theorem asD_rk {m : Sto} {k : Nat} {l : List PyData} (h : m[k]? = some (.lst l)) : asD m (.r k) = some (.list l) := by simp [asD, h]
theorem asI_v (m : Sto) (l : List PyData) : asI m (.v (.list l)) = intsOf l := rfl
theorem asI_map (m : Sto) (l : List Int) : asI m (.v (.list (l.map .int))) = some l := intsOf_map l
theorem asB_map (m : Sto) (l : List Bool) : asBs m (.v (.list (l.map .bool))) = some l := boolsOf_map l
theorem asS_of {m : Sto} {u : U} {l : List PyData} (h : asL m u = some l) : asS m u = some l := by
  cases u with
  | v d => cases d <;> first | exact h | cases h
  | r k => exact h
  | s n => cases h
  | o n => cases h
theorem asQ_of {m : Sto} {u : U} {l : List PyData} (h : asL m u = some l) : asQ m u = some l := by
  cases u with
  | v d => cases d <;> first | exact h | cases h
  | r k => exact h
  | s n => cases h
  | o n => cases h
theorem asD_of {m : Sto} {u : U} {l : List PyData} (h : asL m u = some l) : asD m u = some (.list l) := by
  cases u with
  | v d => cases d <;> simp [asL] at h; subst h; rfl
  | r k =>
    simp only [asL] at h
    simp only [asD]
    split at h
    · cases h; simp [*]
    · cases h
  | s n => cases h
  | o n => cases h
/-- data that is no list stands as data -/
theorem asD_flat {m : Sto} {u : U} {d : PyData} (h : asD m u = some d) (hd : ∀ l, d ≠ .list l) (hd2 : ∀ l, d ≠ .dict l := by intro l z; cases z) : u = .v d := by
  cases u with
  | v e => simp [asD] at h; rw [h]
  | r k =>
    simp only [asD] at h
    split at h
    · cases h; exact absurd rfl (hd _)
    · cases h; exact absurd rfl (hd2 _)
    · cases h
  | s n => cases h
  | o n => cases h
theorem asL_of_D {m : Sto} {u : U} {l : List PyData} (h : asD m u = some (.list l)) : asL m u = some l := by
  cases u with
  | v e => simp [asD] at h; rw [h]; rfl
  | r k =>
    simp only [asD] at h
    simp only [asL]
    split at h
    · cases h; simp [*]
    · cases h
    · cases h
  | s n => cases h
  | o n => cases h
theorem guard_self (m : Sto) (u : U) : guardOf m u m := by cases u <;> first | trivial | rfl

/-! ### comprehensions without effects -/
theorem lcU_map {α : Type} {gd : Sto → Prop} {g : AG} {tt : AT} {te : AE} {E : En} {Q : QA} {m : Sto} (f : α → U) (p : α → Bool) (h : α → PyData) (hg : gd m) : ∀ (l : List α) (acc : List PyData), acc.length + l.length ≤ 1000000 →
    (∀ a ∈ l, ∀ (K1 : PyData → Sto → Prop) (K2 : Sto → Prop), (p a = true → K1 (h a) m) → (p a = false → K2 m) → g (f a) E m fun E1 m1 => tt E1 m1 fun c m2 => if c = true then te E1 m2 fun w m3 => (match w with
      | .v d => K1 d m3
      | _ => False) else K2 m2) →
    Q (.v (.list (acc ++ (l.filter p).map h))) m → lcU gd g tt te E Q (l.map f) acc m
  | [], acc, _, _, q => ⟨hg, by simpa using q⟩
  | a :: l, acc, hz, st, q => by
    simp only [List.length_cons] at hz
    refine ⟨hg, st a List.mem_cons_self (fun d m3 => acc.length < sizeLine ∧ lcU gd g tt te E Q (l.map f) (acc ++ [d]) m3) (fun m2 => lcU gd g tt te E Q (l.map f) acc m2) (fun hp => ?_) (fun hp => ?_)⟩
    · refine ⟨by rw [sizeLine_eq]; omega, lcU_map f p h hg l _ (by simp; omega) (fun b hb => st b (List.mem_cons_of_mem _ hb)) ?_⟩
      rw [List.filter_cons_of_pos hp] at q
      simpa using q
    · refine lcU_map f p h hg l _ (by omega) (fun b hb => st b (List.mem_cons_of_mem _ hb)) ?_
      rw [List.filter_cons_of_neg (by simp [hp])] at q
      exact q
theorem enumU_zip (l : List PyData) : enumU l = l.zipIdx.map fun p => U.v (.tuple [.int (p.2 : Nat), p.1]) := by
  unfold enumU
  rw [List.mapIdx_eq_zipIdx_map]
theorem map_bool {α : Type} (f : α → Bool) (l : List α) : (l.map fun a => PyData.bool (f a)) = (l.map f).map PyData.bool := by simp
theorem map_int {α : Type} (f : α → Int) (l : List α) : (l.map fun a => PyData.int (f a)) = (l.map f).map PyData.int := by simp
theorem filter_true {α : Type} (l : List α) : l.filter (fun _ => true) = l := by simp

theorem rngU_nat (a n : Nat) : rngU (a : Int) n = (List.range' a n).map fun (j : Nat) => U.v (.int (j : Int)) := by
  unfold rngU
  apply List.ext_getElem?
  intro i
  rw [List.getElem?_map, List.getElem?_map]
  by_cases h : i < n
  · rw [List.getElem?_range h, List.getElem?_range' h]
    simp
  · rw [List.getElem?_eq_none (by simpa using h), List.getElem?_eq_none (by simpa using h)]
    rfl
theorem atI_ints {ns : List Int} {j : Nat} (h : j < ns.length) : atI (ns.map PyData.int) (j : Int) = some (.int (ns.getD j 0)) := by
  refine atI_nat ?_
  rw [List.getElem?_map, List.getElem?_eq_getElem h]
  simp [List.getD_eq_getElem?_getD, List.getElem?_eq_getElem h]
theorem enumU_ints (ns : List Int) : enumU (ns.map .int) = (List.range ns.length).map fun (i : Nat) => U.v (.tuple [.int (i : Int), .int (ns.getD i 0)]) := by
  apply List.ext_getElem?
  intro i
  unfold enumU
  rw [List.getElem?_mapIdx, List.getElem?_map, List.getElem?_map]
  by_cases h : i < ns.length
  · simp [List.getElem?_range, h, List.getD_eq_getElem?_getD, List.getElem?_eq_getElem h]
  · simp [List.getElem?_eq_none (by simpa using h : ns.length ≤ i), h]

theorem forU_step {gd : Sto → Prop} {g : AG} {body : AS} {D : AEnds} {u : U} {us : List U} {E : En} {m : Sto} (P : En → Sto → Prop) (h0 : gd m) (hP : ∀ E2 m2, P E2 m2 → forU gd g body D us E2 m2)
    (hb : ∀ J : En → Sto → Prop, (∀ E2 m2, P E2 m2 → J E2 m2) → g u E m fun E1 m1 => body ⟨J, D.rt, D.nx, J⟩ E1 m1) : forU gd g body D (u :: us) E m := ⟨h0, hb _ hP⟩
/-- a for, by a word of what is left, the slots and the store -/
theorem forU_inv {gd : Sto → Prop} {g : AG} {body : AS} {D : AEnds} (I : List U → En → Sto → Prop) (hg : ∀ us E m, I us E m → gd m) (he : ∀ E m, I [] E m → D.nx E m)
    (hb : ∀ (u : U) (us : List U) (E : En) (m : Sto) (J : En → Sto → Prop), I (u :: us) E m → (∀ E2 m2, I us E2 m2 → J E2 m2) → g u E m fun E1 m1 => body ⟨J, D.rt, D.nx, J⟩ E1 m1) : ∀ (us : List U) (E : En) (m : Sto), I us E m → forU gd g body D us E m
  | [], E, m, h => ⟨hg _ _ _ h, he E m h⟩
  | u :: us, E, m, h => ⟨hg _ _ _ h, hb u us E m _ h fun E2 m2 h2 => forU_inv I hg he hb us E2 m2 h2⟩

/-- what stands behind a statement, by a word -/
theorem seq_of {a b : AS} {D : AEnds} {E : En} {m : Sto} (P : En → Sto → Prop) (hb : ∀ E1 m1, P E1 m1 → b D E1 m1) (ha : ∀ J : En → Sto → Prop, (∀ E1 m1, P E1 m1 → J E1 m1) → a ⟨J, D.rt, D.bk, D.ct⟩ E m) : dSeq a b D E m := ha _ hb
/-! ### while, by a word of the environment and a measure -/
theorem dWhile_of {t : AT} {b : AS} {D : AEnds} {E : En} {m : Sto} (n : Nat) (h : whN t b D n E m) : dWhile t b D E m := ⟨n, h⟩

/-! ### the end of a def -/
theorem ret_v (n : Nat) (Q : QA) (d : PyData) (m : Sto) (q : Q (.v d) (m.take n)) : retD n Q (.v d) m := q
end Z
namespace Z.P
open PySem PySem.Spec PyProof.Rows L2 Z
local macro_rules | `(tactic| walk_at "ev") => `(tactic| try simp only [dSeq, dAsg, dVar, dC, dOp, dUn, dB, dChain, dAnd, dOr, dNot, dAndV, dOrV, dNotV, dIf, dNil, dCons, dLst, dLstM, dTup, dCB, dNext, dExpr, dRet, dRetN, dFrz, dIfS, dAsgG, dPar2, dPar3, dUnp, dMeth, dCall, dSl, dPart, dNoPart, dRev, dIsN, dNotN, dIsi, dSetIx, dLRg1, dLRg2, aSortedI, aExt2, dGet, dIn, dPut, dDctM0, dDctM1, dSortSet, dGet2, sRngD, dStep, dReprL, asDs, aExtend, aIndex, aCount, aCountB, dLRgD, dLRgZ, dTry, dTryO, rCall, xRaise, endX, dIsx, dIsxT, aCmpD, sRngS, aSortD, dLenSc, dSortSc, dAug, dFor, dWhile, dLc, dLcM, lcUM, dNever, dBreak, dCont, dYes, dPick,
  aAdd, aSub, aDiv, aMod, aPow, aI, aIc, aB, aMul, aNeg, aEq, aNe, aBB, aIn, aIx, aLen, aMax, aMin, aAbs, aSum, aAll, aAny, aList, aTuple, aInt, aSorted, aRepr, aAppend, aPop, aPopAt, aReverse, aClear, nw, allD, isNone, sList, sTup, sRng1, sRng2, sEnum, sZip, gN, gN0, gN1, gT, startU, endsD, retD, wipeE, setAll, 
  List.map_cons, List.map_nil, List.length_cons, List.length_nil, List.cons_append, List.nil_append, List.replicate, List.getElem?_cons_zero, List.getElem?_cons_succ, List.set_cons_zero, List.set_cons_succ, Nat.reduceAdd, Nat.reduceSub, Nat.reduceLeDiff, Nat.zero_add, Nat.add_zero, List.take_length, if_true, if_false, decide_true, decide_false, Bool.false_eq_true, Bool.not_true, Bool.not_false, Option.isSome_some, Option.map_some, Option.map_none, Option.bind_some, List.append_nil, true_and, and_true, asI_map, asB_map, shE_i, shE_b, shE_n, shE_s, shE_l, shE_t, asL_r, asD_r, asD_v, asL_v, asQ_v, asQ_s, asS_v, asS_t, asS_s, asQ_r, asS_r])
/-! ### links.py -/
def isInt : PyData → Int → Int → Bool
  | .int i, lo, hi => decide (lo ≤ i) && decide (i ≤ hi)
  | _, _, _ => false
def sp_is_integer : ASp := fun us m Q => ∃ u d lo hi, us = [u, .v (.int lo), .v (.int hi)] ∧ asD m u = some d ∧ Q (.v (.bool (isInt d lo hi))) m
theorem sem_is_integer (us : List U) (m : Sto) (Q : QA) (h : sp_is_integer us m Q) : g_is_integer (endsD m.length Q) (startU 3 us) m := by
  obtain ⟨u, d, lo, hi, rfl, hd, q⟩ := h
  unfold g_is_integer
  walk_at "ev"
  simp only [hd]
  cases d with
  | int i =>
    have hu := asD_flat hd (fun l z => by cases z)
    subst hu
    simp only [kindD, isK, isInt] at q ⊢
    by_cases h1 : lo ≤ i
    · simp_all
    · simp_all
      intro z
      omega
  | _ => simp_all [kindD, isK, isInt]
/-- a list with the form of a log -/
def formL (l : List PyData) : Bool := decide (1 ≤ (l.length : Int)) && decide ((l.length : Int) ≤ 150) && l.zipIdx.all fun p => isInt p.1 0 (max 0 ((p.2 : Int) - 1))
def formD : PyData → Bool
  | .list l => formL l
  | _ => false
def sp_have_form : ASp := fun us m Q => ∃ u d, us = [u] ∧ asD m u = some d ∧ Q (.v (.bool (formD d))) m
theorem maxif (i : Int) : (if i - 1 > 0 then i - 1 else 0) = max 0 (i - 1) := by omega
theorem sem_have_form (us : List U) (m : Sto) (Q : QA) (h : sp_have_form us m Q) : g_have_form sp_is_integer (endsD m.length Q) (startU 3 us) m := by
  obtain ⟨u, d, rfl, hd, q⟩ := h
  unfold g_have_form
  walk_at "ev"
  simp only [hd]
  cases d with
  | list l =>
    have hl := asL_of_D hd
    simp only [asS_of hl, hl]
    simp only [kindD, isK, formD, formL] at q ⊢
    by_cases h1 : 1 ≤ (l.length : Int)
    · by_cases h2 : (l.length : Int) ≤ 150
      · simp [h1, h2, enumU_zip]
        refine lcU_map _ (fun _ => true) (fun (p : PyData × Nat) => .bool (isInt p.1 0 (max 0 ((p.2 : Int) - 1)))) (guard_self m u) _ _ (by simp; omega) (fun a ha K1 K2 q1 q2 => ?_) ?_
        · walk_at "ev"
          refine ⟨.v a.1, a.1, 0, _, rfl, rfl, ?_⟩
          have q3 := q1 rfl
          rw [← maxif] at q3
          exact q3
        · rw [filter_true, List.nil_append, map_bool]
          walk_at "ev"
          simpa [h1, h2] using q
      · simp_all
    · simp_all
      intro z1 z2
      omega
  | _ => simp_all [kindD, isK, formD]
/-- two entries cross -/
def xAt (ns : List Int) (i j : Nat) : Bool := decide (ns.getD i 0 < ns.getD j 0) && decide (ns.getD j 0 < (i : Int))
/-- the least pair of entries that cross -/
def firstX (ns : List Int) : Option (Nat × Nat) := (List.range ns.length).findSome? fun i => ((List.range' (i + 1) (ns.length - (i + 1))).find? fun j => xAt ns i j).map fun j => (i, j)
def pairD : Option (Nat × Nat) → PyData
  | none => .none
  | some p => .tuple [.int p.1, .int p.2]
def sp_least_crossing : ASp := fun us m Q => ∃ u ns, us = [u] ∧ asL m u = some (ns.map .int) ∧ ns.length ≤ 1000000 ∧ Q (.v (pairD (firstX ns))) m
theorem lc_inner {u : U} {m : Sto} {ns : List Int} (hu : asL m u = some (ns.map .int)) (D : AEnds) (i : Nat) : ∀ (js : List Nat) (x : Option U), (∀ j ∈ js, j < ns.length) →
    (match js.find? fun j => xAt ns i j with
      | some j => D.rt (.v (.tuple [.int i, .int j])) m
      | none => ∀ y, D.nx [some u, some (.v (.int i)), some (.v (.int (ns.getD i 0))), y] m) →
    forU (fun _ => True) (gN 3) b1_least_crossing D (js.map fun (j : Nat) => U.v (.int (j : Int))) [some u, some (.v (.int i)), some (.v (.int (ns.getD i 0))), x] m
  | [], x, _, h => ⟨trivial, h x⟩
  | j :: js, x, hj, h => by
    refine ⟨trivial, ?_⟩
    have h1 := hj j List.mem_cons_self
    unfold b1_least_crossing
    walk_at "ev"
    simp only [asS_of hu, atI_ints h1]
    rw [List.find?_cons] at h
    by_cases c1 : ns.getD i 0 < ns.getD j 0
    · by_cases c2 : ns.getD j 0 < (i : Int)
      · have c : xAt ns i j = true := by unfold xAt; rw [decide_eq_true c1, decide_eq_true c2]; rfl
        simp only [c] at h
        simp only [c1, c2, decide_true, if_true]
        refine ⟨by rw [sizeLine_eq]; omega, h⟩
      · have c : xAt ns i j = false := by unfold xAt; rw [decide_eq_false c2, Bool.and_false]
        simp only [c] at h
        simp only [c1, c2, decide_true, decide_false, if_true, Bool.false_eq_true, if_false]
        exact lc_inner hu D i js _ (fun k hk => hj k (List.mem_cons_of_mem _ hk)) h
    · have c : xAt ns i j = false := by unfold xAt; rw [decide_eq_false c1, Bool.false_and]
      simp only [c] at h
      simp only [c1, decide_false, Bool.false_eq_true, if_false]
      exact lc_inner hu D i js _ (fun k hk => hj k (List.mem_cons_of_mem _ hk)) h
theorem lc_outer {u : U} {m : Sto} {ns : List Int} (hu : asL m u = some (ns.map .int)) (hz : ns.length ≤ 1000000) (D : AEnds) : ∀ (is : List Nat) (x y z : Option U), (∀ j ∈ is, j < ns.length) →
    (match is.findSome? fun i => ((List.range' (i + 1) (ns.length - (i + 1))).find? fun j => xAt ns i j).map fun j => (i, j) with
      | some p => D.rt (.v (.tuple [.int p.1, .int p.2])) m
      | none => ∀ x y z, D.nx [some u, x, y, z] m) →
    forU (guardOf m u) (gT 2 (gN1 (gN 1) (gN1 (gN 2) gN0))) b2_least_crossing D (is.map fun (i : Nat) => U.v (.tuple [.int (i : Int), .int (ns.getD i 0)])) [some u, x, y, z] m
  | [], x, y, z, _, h => ⟨guard_self m u, h x y z⟩
  | i :: is, x, y, z, hj, h => by
    refine ⟨guard_self m u, ?_⟩
    have h1 := hj i List.mem_cons_self
    unfold b2_least_crossing
    walk_at "ev"
    simp only [asS_of hu, List.length_map]
    refine ⟨by omega, ?_⟩
    rw [show ((i : Int) + 1) = ((i + 1 : Nat) : Int) by omega, rngU_nat, show ((ns.length : Int) - ((i + 1 : Nat) : Int)).toNat = ns.length - (i + 1) by omega]
    refine lc_inner hu _ i _ _ (fun j hj => ?_) ?_
    · have := List.mem_range'.mp hj
      omega
    · rw [List.findSome?_cons] at h
      cases q : (List.range' (i + 1) (ns.length - (i + 1))).find? fun j => xAt ns i j with
      | some j =>
        simp only [q, Option.map_some] at h ⊢
        exact h
      | none =>
        simp only [q, Option.map_none] at h ⊢
        exact fun y' => lc_outer hu hz D is _ _ _ (fun k hk => hj k (List.mem_cons_of_mem _ hk)) h
theorem sem_least_crossing (us : List U) (m : Sto) (Q : QA) (h : sp_least_crossing us m Q) : g_least_crossing (endsD m.length Q) (startU 4 us) m := by
  obtain ⟨u, ns, rfl, hu, hz, q⟩ := h
  unfold g_least_crossing
  walk_at "ev"
  simp only [hu, enumU_ints]
  refine lc_outer hu hz _ _ _ _ _ (fun j hj => List.mem_range.mp hj) ?_
  unfold firstX at q
  split
  · rename_i p hp
    rw [hp] at q
    walk_at "ev"
    exact q
  · rename_i hp
    rw [hp] at q
    intro x y z
    walk_at "ev"
    exact q
/-- a list is a log -/
def logI (ns : List Int) : Bool := formL (ns.map .int) && (firstX ns).isNone
def sp_is_log : ASp := fun us m Q => ∃ u ns, us = [u] ∧ asL m u = some (ns.map .int) ∧ ns.length ≤ 1000000 ∧ Q (.v (.bool (logI ns))) m
theorem sem_is_log (us : List U) (m : Sto) (Q : QA) (h : sp_is_log us m Q) : g_is_log sp_have_form sp_least_crossing (endsD m.length Q) (startU 1 us) m := by
  obtain ⟨u, ns, rfl, hu, hz, q⟩ := h
  unfold g_is_log
  walk_at "ev"
  refine ⟨u, .list (ns.map .int), rfl, asD_of hu, ?_⟩
  unfold logI at q
  simp only [formD] at q ⊢
  by_cases c : formL (ns.map .int) = true
  · simp only [c, if_true]
    rw [c] at q
    refine ⟨u, ns, rfl, hu, hz, ?_⟩
    walk_at "ev"
    cases e : firstX ns with
    | none => rw [e] at q; exact q
    | some p => rw [e] at q; exact q
  · have c' : formL (ns.map .int) = false := by simpa using c
    rw [c'] at q
    simp only [c', Bool.false_eq_true, if_false]
    walk_at "ev"
    exact q
/-- need_log, of a log -/
def sp_need_log : ASp := fun us m Q => ∃ u ns, us = [u] ∧ asL m u = some (ns.map .int) ∧ ns.length ≤ 1000000 ∧ logI ns = true ∧ Q (.v .none) m
theorem sem_need_log (us : List U) (m : Sto) (Q : QA) (h : sp_need_log us m Q) : g_need_log sp_is_log (endsD m.length Q) (startU 1 us) m := by
  obtain ⟨u, ns, rfl, hu, hz, hl, q⟩ := h
  unfold g_need_log
  walk_at "ev"
  refine ⟨u, ns, rfl, hu, hz, ?_⟩
  simp only [hl]
  walk_at "ev"
  exact q
def sp_crossing_in : ASp := fun us m Q => ∃ u ns, us = [u] ∧ asL m u = some (ns.map .int) ∧ ns.length ≤ 1000000 ∧ formL (ns.map .int) = true ∧ Q (.v (pairD (firstX ns))) m
theorem sem_crossing_in (us : List U) (m : Sto) (Q : QA) (h : sp_crossing_in us m Q) : g_crossing_in sp_have_form sp_least_crossing (endsD m.length Q) (startU 1 us) m := by
  obtain ⟨u, ns, rfl, hu, hz, hl, q⟩ := h
  unfold g_crossing_in
  walk_at "ev"
  refine ⟨u, .list (ns.map .int), rfl, asD_of hu, ?_⟩
  simp only [formD, hl]
  walk_at "ev"
  refine ⟨u, ns, rfl, hu, hz, ?_⟩
  walk_at "ev"
  exact q
end Z.P
/-! Z8: logs as lists of ints; the draws of the laws. -/
namespace Z.P
open PySem PySem.Spec PyProof.Rows L2 Z
local macro_rules | `(tactic| walk_at "ev") => `(tactic| try simp only [dSeq, dAsg, dVar, dC, dOp, dUn, dB, dChain, dAnd, dOr, dNot, dAndV, dOrV, dNotV, dIf, dNil, dCons, dLst, dLstM, dTup, dCB, dNext, dExpr, dRet, dRetN, dFrz, dIfS, dAsgG, dPar2, dPar3, dUnp, dMeth, dCall, dSl, dPart, dNoPart, dRev, dIsN, dNotN, dIsi, dSetIx, dLRg1, dLRg2, aSortedI, aExt2, dGet, dIn, dPut, dDctM0, dDctM1, dSortSet, dGet2, sRngD, dStep, dReprL, asDs, aExtend, aIndex, aCount, aCountB, dLRgD, dLRgZ, dTry, dTryO, rCall, xRaise, endX, dIsx, dIsxT, aCmpD, sRngS, aSortD, dLenSc, dSortSc, dAug, dFor, dWhile, dLc, dLcM, lcUM, dNever, dBreak, dCont, dYes, dPick,
  aAdd, aSub, aDiv, aMod, aPow, aI, aIc, aB, aMul, aNeg, aEq, aNe, aBB, aIn, aIx, aLen, aMax, aMin, aAbs, aSum, aAll, aAny, aList, aTuple, aInt, aSorted, aRepr, aAppend, aPop, aPopAt, aReverse, aClear, nw, allD, isNone, sList, sTup, sRng1, sRng2, sEnum, sZip, gN, gN0, gN1, gT, startU, endsD, retD, wipeE, setAll, 
  List.map_cons, List.map_nil, List.length_cons, List.length_nil, List.cons_append, List.nil_append, List.replicate, List.getElem?_cons_zero, List.getElem?_cons_succ, List.set_cons_zero, List.set_cons_succ, Nat.reduceAdd, Nat.reduceSub, Nat.reduceLeDiff, Nat.zero_add, Nat.add_zero, List.take_length, if_true, if_false, decide_true, decide_false, Bool.false_eq_true, Bool.not_true, Bool.not_false, Option.isSome_some, Option.map_some, Option.map_none, Option.bind_some, List.append_nil, true_and, and_true, asI_map, asB_map, shE_i, shE_b, shE_n, shE_s, shE_l, shE_t, asL_r, asD_r, asD_v, asL_v, asQ_v, asQ_s, asS_v, asS_t, asS_s, asQ_r, asS_r])
/-! ### logs -/
theorem getD_snoc (ns : List Int) (t : Int) (i : Nat) : (ns ++ [t]).getD i 0 = if i < ns.length then ns.getD i 0 else if i = ns.length then t else 0 := by
  simp only [List.getD_eq_getElem?_getD]
  by_cases h : i < ns.length
  · rw [if_pos h, List.getElem?_append_left h]
  · rw [if_neg h, List.getElem?_append_right (by omega)]
    by_cases h2 : i = ns.length
    · subst h2; simp
    · rw [if_neg h2, List.getElem?_eq_none (by simp; omega)]
      rfl
def NoX (ns : List Int) : Prop := ∀ i j : Nat, i < j → j < ns.length → ¬ (ns.getD i 0 < ns.getD j 0 ∧ ns.getD j 0 < (i : Int))
def FormP (ns : List Int) : Prop := 1 ≤ ns.length ∧ ns.length ≤ 150 ∧ ∀ i : Nat, i < ns.length → 0 ≤ ns.getD i 0 ∧ ns.getD i 0 ≤ max 0 ((i : Int) - 1)
def LogP (ns : List Int) : Prop := FormP ns ∧ NoX ns
theorem formL_iff (ns : List Int) : formL (ns.map .int) = true ↔ FormP ns := by
  unfold formL FormP
  simp only [Bool.and_eq_true, decide_eq_true_eq, List.all_eq_true, List.length_map]
  constructor
  · rintro ⟨⟨h1, h2⟩, h3⟩
    refine ⟨by omega, by omega, fun i hi => ?_⟩
    have := h3 (.int (ns.getD i 0), i) (by
      rw [List.mem_zipIdx_iff_getElem?]
      simp [List.getD_eq_getElem?_getD, List.getElem?_eq_getElem hi])
    simp only [isInt, Bool.and_eq_true, decide_eq_true_eq] at this
    exact this
  · rintro ⟨h1, h2, h3⟩
    refine ⟨⟨by omega, by omega⟩, fun p hp => ?_⟩
    rw [List.mem_zipIdx_iff_getElem?, List.getElem?_map] at hp
    obtain ⟨n, e1, e2⟩ := Option.map_eq_some_iff.mp hp
    have hi := (List.getElem?_eq_some_iff.mp e1).1
    have := h3 p.2 hi
    rw [List.getD_eq_getElem?_getD, e1] at this
    rw [← e2]
    simp only [isInt, Bool.and_eq_true, decide_eq_true_eq]
    exact this
theorem xAt_iff (ns : List Int) (i j : Nat) : xAt ns i j = true ↔ ns.getD i 0 < ns.getD j 0 ∧ ns.getD j 0 < (i : Int) := by
  unfold xAt
  simp only [Bool.and_eq_true, decide_eq_true_eq]
theorem firstX_none (ns : List Int) : firstX ns = none ↔ NoX ns := by
  unfold firstX NoX
  rw [List.findSome?_eq_none_iff]
  constructor
  · intro h i j hij hj hx
    have := h i (List.mem_range.mpr (by omega))
    rw [Option.map_eq_none_iff, List.find?_eq_none] at this
    exact this j (List.mem_range'_1.mpr ⟨by omega, by omega⟩) ((xAt_iff ns i j).mpr hx)
  · intro h i hi
    rw [Option.map_eq_none_iff, List.find?_eq_none]
    intro j hj hx
    have h1 := List.mem_range'_1.mp hj
    have h2 := List.mem_range.mp hi
    exact h i j (by omega) (by omega) ((xAt_iff ns i j).mp hx)
theorem logI_iff (ns : List Int) : logI ns = true ↔ LogP ns := by
  unfold logI LogP
  rw [Bool.and_eq_true, formL_iff, ← firstX_none]
  constructor
  · rintro ⟨h1, h2⟩
    exact ⟨h1, by simpa using h2⟩
  · rintro ⟨h1, h2⟩
    exact ⟨h1, by rw [h2]; rfl⟩
/-- targets that may come next, in ascending order -/
structure AlOk (ns al : List Int) : Prop where
  ne : al ≠ []
  len : al.length ≤ ns.length
  asc : al.Pairwise (· < ·)
  ok : ∀ t ∈ al, 0 ≤ t ∧ t < ns.length ∧ ∀ i : Nat, i < ns.length → ¬ (ns.getD i 0 < t ∧ t < (i : Int))
theorem logP_one : LogP [0] := by
  refine ⟨⟨by decide, by decide, fun i hi => ?_⟩, fun i j hij hj => ?_⟩
  · have : i = 0 := by simpa using hi
    subst this
    decide
  · simp at hj; omega
theorem alOk_one : AlOk [0] [0] := by
  refine ⟨by simp, by simp, by simp, fun t ht => ?_⟩
  have : t = 0 := by simpa using ht
  subst this
  refine ⟨by omega, by simp, fun i hi => ?_⟩
  have : i = 0 := by simpa using hi
  subst this
  omega
theorem logP_snoc {ns : List Int} {t : Int} (h : LogP ns) (hl : ns.length < 150) (h0 : 0 ≤ t) (h1 : t < ns.length) (hx : ∀ i : Nat, i < ns.length → ¬ (ns.getD i 0 < t ∧ t < (i : Int))) : LogP (ns ++ [t]) := by
  obtain ⟨⟨f1, f2, f3⟩, nx⟩ := h
  refine ⟨⟨by simp, by simp; omega, fun i hi => ?_⟩, fun i j hij hj => ?_⟩
  · rw [getD_snoc]
    simp at hi
    by_cases h2 : i < ns.length
    · rw [if_pos h2]; exact f3 i h2
    · rw [if_neg h2, if_pos (by omega)]; omega
  · simp at hj
    rw [getD_snoc, getD_snoc, if_pos (show i < ns.length by omega)]
    by_cases h2 : j < ns.length
    · rw [if_pos h2]; exact nx i j hij h2
    · rw [if_neg h2, if_pos (by omega)]
      exact hx i (by omega)
theorem alOk_snoc {ns al : List Int} {k : Nat} {t : Int} (h : AlOk ns al) (hk : al[k]? = some t) : AlOk (ns ++ [t]) (al.take (k + 1) ++ [(ns.length : Int)]) := by
  have hkl := (List.getElem?_eq_some_iff.mp hk).1
  have tm : t ∈ al := List.mem_of_getElem? hk
  have le : ∀ x ∈ al.take (k + 1), x ≤ t := fun x hx => by
    obtain ⟨j, hj, e⟩ := List.getElem_of_mem hx
    rw [List.length_take] at hj
    rw [List.getElem_take] at e
    have ht : al[k] = t := (List.getElem?_eq_some_iff.mp hk).2
    by_cases hjk : j = k
    · subst hjk; omega
    · have := List.pairwise_iff_getElem.mp h.asc j k (by omega) hkl (by omega)
      omega
  refine ⟨by simp, by have := h.len; simp; omega, ?_, fun x hx => ?_⟩
  · rw [List.pairwise_append]
    refine ⟨h.asc.sublist (List.take_sublist _ _), by simp, fun a ha b hb => ?_⟩
    have : b = ns.length := by simpa using hb
    subst this
    exact (h.ok a (List.mem_of_mem_take ha)).2.1
  · rcases List.mem_append.mp hx with hx | hx
    · obtain ⟨q1, q2, q3⟩ := h.ok x (List.mem_of_mem_take hx)
      refine ⟨q1, by simp; omega, fun i hi => ?_⟩
      rw [getD_snoc]
      simp at hi
      by_cases h2 : i < ns.length
      · rw [if_pos h2]; exact q3 i h2
      · rw [if_neg h2, if_pos (by omega)]
        have := le x hx
        omega
    · have : x = ns.length := by simpa using hx
      subst this
      refine ⟨by omega, by simp; omega, fun i hi => ?_⟩
      simp at hi
      omega

/-! ### the draws: a cell of three ints -/
def Vt (k T : Nat) (m : Sto) : Prop := ∃ a b c : Int, m[k]? = some (.lst [.int a, .int b, .int c]) ∧ 0 ≤ a ∧ 0 ≤ b ∧ b < 1000000000000000000000000000000000000000000000000000000000000 ∧ 0 ≤ c ∧ c ≤ (T : Int)
/-- the first n cells stay, but k's -/
def Fx (k n : Nat) (m m' : Sto) : Prop := n ≤ m.length ∧ n ≤ m'.length ∧ ∀ j, j < n → j ≠ k → m'[j]? = m[j]?
theorem Vt.lt {k T : Nat} {m : Sto} (h : Vt k T m) : k < m.length := by
  obtain ⟨a, b, c, e, _⟩ := h
  exact (List.getElem?_eq_some_iff.mp e).1
theorem Vt.mono {k T T' : Nat} {m : Sto} (h : Vt k T m) (hT : T ≤ T') : Vt k T' m := by
  obtain ⟨a, b, c, e, h1, h2, h3, h4, h5⟩ := h
  exact ⟨a, b, c, e, h1, h2, h3, h4, by omega⟩
theorem Vt.of_eq {k T : Nat} {m m' : Sto} (h : Vt k T m) (e : m'[k]? = m[k]?) : Vt k T m' := by
  obtain ⟨a, b, c, e1, r⟩ := h
  exact ⟨a, b, c, e.trans e1, r⟩
theorem Fx.refl {k n : Nat} {m : Sto} (h : n ≤ m.length) : Fx k n m m := ⟨h, h, fun _ _ _ => rfl⟩
theorem Fx.trans {k n : Nat} {m m1 m2 : Sto} (a : Fx k n m m1) (b : Fx k n m1 m2) : Fx k n m m2 := ⟨a.1, b.2.1, fun j h1 h2 => (b.2.2 j h1 h2).trans (a.2.2 j h1 h2)⟩
theorem Fx.less {k n n' : Nat} {m m1 : Sto} (a : Fx k n m m1) (h : n' ≤ n) : Fx k n' m m1 := ⟨by have := a.1; omega, by have := a.2.1; omega, fun j h1 h2 => a.2.2 j (by omega) h2⟩
theorem Fx.take {k n : Nat} {m m1 : Sto} (a : Fx k n m m1) : Fx k n m (m1.take n) := ⟨a.1, by rw [List.length_take]; have := a.2.1; omega, fun j h1 h2 => by rw [List.getElem?_take_of_lt h1]; exact a.2.2 j h1 h2⟩
theorem Vt.take {k T n : Nat} {m : Sto} (h : Vt k T m) (hk : k < n) : Vt k T (m.take n) := h.of_eq (by rw [List.getElem?_take_of_lt hk])
/-- more cells behind -/
theorem Fx.app {k n : Nat} {m m1 l : Sto} (a : Fx k n m m1) : Fx k n m (m1 ++ l) := ⟨a.1, by have := a.2.1; simp; omega, fun j h1 h2 => by rw [List.getElem?_append_left (by have := a.2.1; omega)]; exact a.2.2 j h1 h2⟩
theorem Vt.app {k T : Nat} {m l : Sto} (h : Vt k T m) : Vt k T (m ++ l) := h.of_eq (by rw [List.getElem?_append_left h.lt])
/-- another cell is changed -/
theorem Fx.set {k n j : Nat} {m m1 : Sto} {c : Cell} (a : Fx k n m m1) (h : n ≤ j) : Fx k n m (m1.set j c) := ⟨a.1, by have := a.2.1; simpa using this, fun i h1 h2 => by rw [List.getElem?_set_ne (by omega)]; exact a.2.2 i h1 h2⟩
theorem Vt.set {k T j : Nat} {m : Sto} {c : Cell} (h : Vt k T m) (hj : j ≠ k) : Vt k T (m.set j c) := h.of_eq (by rw [List.getElem?_set_ne hj])
theorem set_len {j : Nat} {m : Sto} {c : Cell} : (m.set j c).length = m.length := List.length_set
theorem set_self {j : Nat} {m : Sto} {c : Cell} (h : j < m.length) : (m.set j c)[j]? = some c := List.getElem?_set_self h
theorem intBits_le {i : Int} {n : Nat} (h0 : 0 < n) (h : i.natAbs < 2 ^ n) : Builtin.Int.intBits i ≤ n := by
  have := PySem.Flt.log2_lt_of h0 h
  unfold Builtin.Int.intBits
  split <;> omega
theorem pw3 {i : Int} (h0 : 0 ≤ i) (h : i < 1000000000000000000000000000000000000000000000000000000000000000000000000000000000) : CPw i 3 := by
  refine ⟨by decide, .inr ?_⟩
  have h1 : i.natAbs < 2 ^ 300 := Nat.lt_of_lt_of_le (by omega : i.natAbs < 1000000000000000000000000000000000000000000000000000000000000000000000000000000000) (by decide)
  have := intBits_le (by decide) h1
  have e : (2 : Int) ^ 27 = 134217728 := by decide
  rw [e]
  omega
theorem pw10 {j : Int} (h0 : 0 ≤ j) (h : j ≤ 1000) : CPw 10 j := ⟨h0, .inl ⟨by omega, by decide⟩⟩
theorem ml_small {i j : Int} (h : (-(2 ^ 64) < i ∧ i < 2 ^ 64) ∨ (-(2 ^ 64) < j ∧ j < 2 ^ 64)) : CMl i j := .inl h
theorem at0 {α : Type} (x y z : α) : atI [x, y, z] 0 = some x := rfl
theorem at1 {α : Type} (x y z : α) : atI [x, y, z] 1 = some y := rfl
theorem at2 {α : Type} (x y z : α) : atI [x, y, z] 2 = some z := rfl
theorem ix0 : ixN 3 0 = some 0 := rfl
theorem ix1 : ixN 3 1 = some 1 := rfl
theorem ix2 : ixN 3 2 = some 2 := rfl
def sp_law_drip : ASp := fun us m Q => ∃ (k T : Nat) (many : Int), us = [.r k, .v (.int many)] ∧ Vt k T m ∧ T < 1000000000000 ∧ CDv 0 many ∧
  ∀ (r : Int) (m' : Sto), 0 ≤ r → r < many → m'.length = m.length → Fx k m.length m m' → Vt k (T + 1) m' → Q (.v (.int r)) m'
theorem sem_law_drip (us : List U) (m : Sto) (Q : QA) (h : sp_law_drip us m Q) : g_law_drip (endsD m.length Q) (startU 4 us) m := by
  obtain ⟨k, T, many, rfl, ⟨a, b, c, hk, h1, h2, h3, h4, h5⟩, hT, hm, q⟩ := h
  have hm0 : 0 < many := hm.1
  have hlt := (List.getElem?_eq_some_iff.mp hk).1
  unfold g_law_drip
  walk_at "ev"
  have eS : ∀ c : Cell, (m.set k c)[k]? = some c := fun c => List.getElem?_set_self hlt
  have tk : ∀ c : Cell, (m.set k c).take m.length = m.set k c := fun c => List.take_of_length_le (by rw [List.length_set]; exact Nat.le_refl _)
  have fin : ∀ (r a' b' c' : Int), 0 ≤ r → r < many → 0 ≤ a' → 0 ≤ b' → b' < 1000000000000000000000000000000000000000000000000000000000000 → 0 ≤ c' → c' ≤ (T : Int) + 1 → Q (.v (.int r)) (m.set k (.lst [.int a', .int b', .int c'])) := fun r a' b' c' g1 g2 g3 g4 g5 g6 g7 =>
    q r _ g1 g2 List.length_set ⟨Nat.le_refl _, by rw [List.length_set]; exact Nat.le_refl _, fun j _ hj => List.getElem?_set_ne (Ne.symm hj)⟩ ⟨a', b', c', eS _, g3, g4, g5, g6, by omega⟩
  by_cases ha : 0 < a
  · simp only [hk, at0, ix0, ha, decide_true, List.length_cons, List.length_nil]
    walk_at "ev"
    simp only [hk, at0, ix0]
    walk_at "ev"
    refine ⟨hm0, ⟨hm0, hm.2⟩, ?_⟩
    simp only [ix0, List.set_cons_zero, tk]
    exact fin _ _ b c (Int.emod_nonneg _ (by omega)) (Int.emod_lt_of_pos _ hm0) (Int.ediv_nonneg h1 (by omega)) h2 h3 h4 (by omega)
  · simp only [hk, at0, at1, at2, ix0, ix1, ix2, ha, decide_false, List.length_cons, List.length_nil]
    walk_at "ev"
    simp only [ix2, at0, at1, at2, List.set_cons_zero, List.set_cons_succ, eS, tk]
    walk_at "ev"
    have e43 : (10 : Int) ^ Int.toNat 43 + 57 = 10000000000000000000000000000000000000000057 := by decide
    have e42 : (10 : Int) ^ Int.toNat 42 + 63 = 1000000000000000000000000000000000000000063 := by decide
    simp only [e43, e42]
    have d1 : 0 ≤ (b + 2654435761 * (c + 1)) ^ Int.toNat 3 % 10000000000000000000000000000000000000000057 := Int.emod_nonneg _ (by decide)
    have d2 : (b + 2654435761 * (c + 1)) ^ Int.toNat 3 % 10000000000000000000000000000000000000000057 < 10000000000000000000000000000000000000000057 := Int.emod_lt_of_pos _ (by decide)
    generalize (b + 2654435761 * (c + 1)) ^ Int.toNat 3 % 10000000000000000000000000000000000000000057 = d at *
    refine ⟨ml_small (by omega), pw3 (by omega) (by omega), pw10 (by decide) (by decide), by decide, ml_small (by omega), pw3 (by omega) (by omega), pw10 (by decide) (by decide), by decide, ⟨by decide, by omega⟩, hm0, ?_⟩
    exact fin _ a b (c + 1) (Int.emod_nonneg _ (by omega)) (Int.emod_lt_of_pos _ hm0) h1 h2 h3 (by omega) (by omega)
theorem atI_at {α : Type} {l : List α} {i : Int} (h0 : 0 ≤ i) (h1 : i < l.length) : atI l i = l[i.toNat]? := by
  unfold atI ixN
  rw [if_pos h0, if_pos h1]
  rfl
theorem atI_ex {α : Type} {l : List α} {i : Int} (h0 : 0 ≤ i) (h1 : i < l.length) : ∃ v, atI l i = some v ∧ v ∈ l := by
  have h : i.toNat < l.length := by omega
  exact ⟨l[i.toNat], by rw [atI_at h0 h1, List.getElem?_eq_getElem h], List.getElem_mem h⟩
/-- a list of ints, at a place -/
theorem atI_exI {l : List Int} {i : Int} (h0 : 0 ≤ i) (h1 : i < l.length) : ∃ v : Int, atI (l.map PyData.int) i = some (.int v) ∧ l[i.toNat]? = some v ∧ v ∈ l := by
  have h : i.toNat < l.length := by omega
  refine ⟨l[i.toNat], ?_, List.getElem?_eq_getElem h, List.getElem_mem h⟩
  rw [atI_at h0 (by simpa using h1), List.getElem?_map, List.getElem?_eq_getElem h]
  rfl
theorem Vt.new {m : Sto} {a b : Int} (h1 : 0 ≤ a) (h2 : 0 ≤ b) (h3 : b < 1000000000000000000000000000000000000000000000000000000000000) : Vt m.length 0 (m ++ [.lst [.int a, .int b, .int 0]]) :=
  ⟨a, b, 0, by rw [List.getElem?_append_right (Nat.le_refl _)]; simp, h1, h2, h3, by omega, by omega⟩
def sp_law_vat : ASp := fun us m Q => ∃ (ns : List Int) (k : Int), us = [.s ns, .v (.int k)] ∧ 0 ≤ k ∧ k ≤ 1000 ∧ ∀ c, Vt m.length 0 (m ++ [c]) → Q (.r m.length) (m ++ [c])
theorem sem_law_vat (us : List U) (m : Sto) (Q : QA) (h : sp_law_vat us m Q) : g_law_vat (endsD m.length Q) (startU 3 us) m := by
  obtain ⟨ns, k, rfl, h0, h1, q⟩ := h
  unfold g_law_vat
  walk_at "ev"
  have main : ∀ x : Int, 0 ≤ x % (10 ^ Int.toNat 40 + 121) ∧ x % (10 ^ Int.toNat 40 + 121) < 10 ^ Int.toNat 40 + 121 := fun x => ⟨Int.emod_nonneg _ (by decide), Int.emod_lt_of_pos _ (by decide)⟩
  have e40 : (10 : Int) ^ Int.toNat 40 + 121 = 10000000000000000000000000000000000000121 := by decide
  have e18 : (10 : Int) ^ Int.toNat 18 = 1000000000000000000 := by decide
  rw [e40] at main
  simp only [List.length_map, e40, e18]
  by_cases hk : k < (ns.length : Int)
  · obtain ⟨v, e1, e2, _⟩ := atI_exI h0 hk
    simp only [hk, decide_true, e1]
    walk_at "ev"
    obtain ⟨m1, m2⟩ := main v
    generalize v % 10000000000000000000000000000000000000121 = z at *
    refine ⟨pw10 (by decide) (by decide), pw10 (by decide) (by decide), by decide, ml_small (by omega), ml_small (by omega), by decide, ?_⟩
    simp only [Nat.lt_irrefl, if_false]
    simp
    refine q _ (Vt.new ?_ (by omega) (by omega)) <;> first | omega | (split <;> omega)
  · simp only [hk, decide_false]
    walk_at "ev"
    obtain ⟨m1, m2⟩ := main 0
    generalize (0 : Int) % 10000000000000000000000000000000000000121 = z at *
    refine ⟨pw10 (by decide) (by decide), pw10 (by decide) (by decide), by decide, ml_small (by omega), ml_small (by omega), by decide, ?_⟩
    simp only [Nat.lt_irrefl, if_false]
    simp
    refine q _ (Vt.new ?_ (by omega) (by omega)) <;> first | omega | (split <;> omega)
def sp_law_log : ASp := fun us m Q => ∃ (k T : Nat) (size : Int), us = [.r k, .v (.int size)] ∧ Vt k T m ∧ T < 100000000000 ∧ 1 ≤ size ∧ size ≤ 150 ∧
  ∀ (ns : List Int) (m' : Sto), LogP ns → (ns.length : Int) = size → m'.length = m.length → Fx k m.length m m' → Vt k (T + 2000) m' → Q (.v (.list (ns.map .int))) m'
theorem log_loop {D : AEnds} {k f : Nat} {sz : U} {m0 : Sto} (hf : f = m0.length) (way : Int) (hw0 : 0 ≤ way) (hw6 : way < 6) : ∀ (n a : Nat) (ns al : List Int) (T : Nat) (m1 : Sto) (x5 x6 x7 x8 : Option U),
    ns.length = a → a + n ≤ 150 → LogP ns → AlOk ns al → m1[f]? = some (.lst (ns.map .int)) → Vt k T m1 → T + 6 * n < 1000000000000 → Fx k m0.length m0 m1 → k < m0.length →
    (∀ (ns' : List Int) (m' : Sto) (al' x5 x6 x7 x8 : Option U), LogP ns' → ns'.length = a + n → m'[f]? = some (.lst (ns'.map .int)) → Vt k (T + 6 * n) m' → Fx k m0.length m0 m' →
      D.nx [some (.r k), some sz, some (.r f), al', some (.v (.int way)), x5, x6, x7, x8] m') →
    forU (fun _ => True) (gN 5) (b1_law_log sp_law_drip) D ((List.range' a n).map fun (j : Nat) => U.v (.int (j : Int))) [some (.r k), some sz, some (.r f), some (.v (.list (al.map .int))), some (.v (.int way)), x5, x6, x7, x8] m1
  | 0, a, ns, al, T, m1, x5, x6, x7, x8, ha, hn, hL, hA, hm, hV, hT, hF, hk, q => ⟨trivial, q ns m1 _ _ _ _ _ hL (by omega) hm hV hF⟩
  | n + 1, a, ns, al, T, m1, x5, x6, x7, x8, ha, hn, hL, hA, hm, hV, hT, hF, hk, q => by
    rw [List.range'_succ, List.map_cons]
    refine forU_step (fun E2 m2 => ∃ (ns' al' : List Int) (x5 x6 x7 x8 : Option U), E2 = [some (.r k), some sz, some (.r f), some (.v (.list (al'.map .int))), some (.v (.int way)), x5, x6, x7, x8] ∧ ns'.length = a + 1 ∧ LogP ns' ∧ AlOk ns' al' ∧
      m2[f]? = some (.lst (ns'.map .int)) ∧ Vt k (T + 6) m2 ∧ Fx k m0.length m0 m2) trivial ?_ ?_
    · rintro E2 m2 ⟨ns', al', y5, y6, y7, y8, rfl, h1, h2, h3, h4, h5, h6⟩
      refine log_loop hf way hw0 hw6 n (a + 1) ns' al' (T + 6) m2 _ _ _ _ h1 (by omega) h2 h3 h4 h5 (by omega) h6 hk ?_
      intro ns2 m3 al2 z5 z6 z7 z8 g1 g2 g3 g4 g5
      exact q ns2 m3 al2 z5 z6 z7 z8 g1 (by omega) g3 (g4.mono (by omega)) g5
    intro J hJ
    have hal : 0 < al.length := List.length_pos_iff.mpr hA.ne
    have hall := hA.len
    have hfl : f < m1.length := (List.getElem?_eq_some_iff.mp hm).1
    have fin : ∀ (spot : Int) (m2 : Sto) (y6 y7 : Option U), 0 ≤ spot → spot < al.length → m2.length = m1.length → m2[f]? = some (.lst (ns.map .int)) → Vt k (T + 6) m2 → Fx k m0.length m0 m2 →
        ∃ t : Int, atI (al.map PyData.int) spot = some (.int t) ∧ J [some (.r k), some sz, some (.r f), some (.v (.list (cutD (al.map PyData.int) none (some (spot + 1)) ++ [PyData.int (a : Int)]))), some (.v (.int way)), some (.v (.int (a : Int))), y6, y7, some (.v (.int spot))] (m2.set f (.lst (ns.map PyData.int ++ [.int t]))) := by
      intro spot m2 y6 y7 g1 g2 g3 g4 g5 g6
      obtain ⟨t, e1, e2, e3⟩ := atI_exI g1 g2
      refine ⟨t, e1, hJ _ _ ⟨ns ++ [t], al.take (spot.toNat + 1) ++ [(ns.length : Int)], some (.v (.int (a : Int))), y6, y7, some (.v (.int spot)), ?_, by simp; omega, ?_, ?_, ?_, ?_, ?_⟩⟩
      · have ec : cutD (al.map PyData.int) none (some (spot + 1)) = (al.take (spot.toNat + 1)).map PyData.int := by
          unfold cutD
          rw [HT.sIx_none, show spot + 1 = ((spot.toNat + 1 : Nat) : Int) by omega, HT.sIx_nat, List.drop_zero, Nat.sub_zero, List.map_take, List.length_map]
          rw [show min (spot.toNat + 1) al.length = spot.toNat + 1 by omega]
        rw [ec, List.map_append, ha]
        rfl
      · obtain ⟨q1, q2, q3⟩ := hA.ok t e3
        exact logP_snoc hL (by omega) q1 q2 q3
      · exact alOk_snoc hA e2
      · rw [List.map_append]
        exact List.getElem?_set_self (by omega)
      · exact g5.set (by omega)
      · exact g6.set (by omega)
    unfold b1_law_log
    walk_at "ev"
    simp only [List.length_map]
    refine ⟨k, T, _, rfl, hV, by omega, ⟨by omega, .inl (by omega)⟩, fun r1 m2 g1 g2 gl2 gF2 hV2 => ?_⟩
    walk_at "ev"
    refine ⟨k, T + 1, _, rfl, hV2, by omega, ⟨by omega, .inl (by omega)⟩, fun r2 m3 g3 g4 gl3 gF3 hV3 => ?_⟩
    walk_at "ev"
    refine ⟨by decide, ?_⟩
    refine ⟨k, T + 2, _, rfl, hV3, by omega, ⟨by omega, .inl (by omega)⟩, fun r3 m4 g5 g6 gl4 gF4 hV4 => ?_⟩
    walk_at "ev"
    refine ⟨ml_small (by omega), ⟨by decide, by omega⟩, by decide, by decide, ?_⟩
    refine ⟨k, T + 3, _, rfl, hV4, by omega, ⟨by omega, .inl (by omega)⟩, fun r4 m5 g7 g8 gl5 gF5 hV5 => ?_⟩
    have e5 : m5[f]? = some (.lst (ns.map .int)) := by
      rw [gF5.2.2 f (by omega) (by omega), gF4.2.2 f (by omega) (by omega), gF3.2.2 f (by omega) (by omega), gF2.2.2 f (by omega) (by omega)]
      exact hm
    have f5 : Fx k m0.length m0 m5 := ((((hF.trans (gF2.less hF.2.1)).trans (gF3.less (by have := hF.2.1; omega))).trans (gF4.less (by have := hF.2.1; omega))).trans (gF5.less (by have := hF.2.1; omega)))
    have tail : ∀ (spot : Int) (m6 : Sto) (y7 : Option U), 0 ≤ spot → spot < al.length → m6.length = m1.length → m6[f]? = some (.lst (ns.map .int)) → Vt k (T + 6) m6 → Fx k m0.length m0 m6 →
        (match m6[f]? with
          | some (Cell.lst l) => some l
          | x => none).isSome = true := fun spot m6 y7 _ _ _ e _ _ => by rw [e]; rfl
    walk_at "ev"
    by_cases h4 : 0 < r4
    · simp only [h4, decide_true, if_true]
      have hp : ∃ s : Int, atI [PyData.int r1, PyData.int ((al.length : Int) - 1), PyData.int 0, PyData.int (if (al.length : Int) - 1 - r2 > 0 then (al.length : Int) - 1 - r2 else 0), PyData.int (((al.length : Int) - 1) * r3), PyData.int (((al.length : Int) - 1) / 2)] way = some (.int s) ∧ 0 ≤ s ∧ s < al.length := by
        obtain ⟨s, e1, _, e3⟩ := atI_exI (l := [r1, (al.length : Int) - 1, 0, if (al.length : Int) - 1 - r2 > 0 then (al.length : Int) - 1 - r2 else 0, ((al.length : Int) - 1) * r3, ((al.length : Int) - 1) / 2]) hw0 (by simpa using hw6)
        refine ⟨s, e1, ?_⟩
        have h3 : r3 = 0 ∨ r3 = 1 := by omega
        simp only [List.mem_cons, List.not_mem_nil, or_false] at e3
        rcases e3 with e3 | e3 | e3 | e3 | e3 | e3
        · omega
        · omega
        · omega
        · rw [e3]; split <;> omega
        · rcases h3 with h3 | h3 <;> rw [h3] at e3 <;> omega
        · omega
      obtain ⟨s, hs, s0, s1⟩ := hp
      obtain ⟨t, ht, hJ2⟩ := fin s m5 _ _ s0 s1 (by omega) e5 (hV5.mono (by omega)) f5
      simp only [hs]
      walk_at "ev"
      simp only [e5, ht, Option.isSome_some, List.length_map]
      walk_at "ev"
      refine ⟨by rw [sizeLine_eq]; omega, by decide, ?_, hJ2⟩
      have hc : (cutD (al.map PyData.int) none (some (s + 1))).length ≤ (al.map PyData.int).length := by
        unfold cutD
        rw [List.length_take, List.length_drop]
        omega
      rw [List.length_map] at hc
      rw [sizeLine_eq]
      omega
    · simp only [h4, decide_false, Bool.false_eq_true, if_false]
      refine ⟨k, T + 4, _, rfl, hV5, by omega, ⟨by omega, .inl (by omega)⟩, fun s m6 s0 s1 gl6 gF6 hV6 => ?_⟩
      have e6 : m6[f]? = some (.lst (ns.map .int)) := by rw [gF6.2.2 f (by omega) (by omega)]; exact e5
      obtain ⟨t, ht, hJ2⟩ := fin s m6 _ _ s0 (by omega) (by omega) e6 (hV6.mono (by omega)) (f5.trans (gF6.less (by have := f5.2.1; omega)))
      walk_at "ev"
      simp only [e6, ht, Option.isSome_some, List.length_map]
      walk_at "ev"
      refine ⟨by rw [sizeLine_eq]; omega, by decide, ?_, hJ2⟩
      have hc : (cutD (al.map PyData.int) none (some (s + 1))).length ≤ (al.map PyData.int).length := by
        unfold cutD
        rw [List.length_take, List.length_drop]
        omega
      rw [List.length_map] at hc
      rw [sizeLine_eq]
      omega
theorem sem_law_log (us : List U) (m : Sto) (Q : QA) (h : sp_law_log us m Q) : g_law_log sp_law_drip (endsD m.length Q) (startU 9 us) m := by
  obtain ⟨k, T, size, rfl, hV, hT, h1, h2, q⟩ := h
  have hk := hV.lt
  unfold g_law_log
  walk_at "ev"
  refine ⟨by decide, by decide, k, T, 6, rfl, hV.app, by omega, ⟨by omega, .inl (by omega)⟩, fun way m1 w0 w6 gl gF hV1 => ?_⟩
  walk_at "ev"
  refine ⟨by omega, ?_⟩
  rw [show (1 : Int) = ((1 : Nat) : Int) from rfl, rngU_nat]
  have hfx : Fx k m.length m m1 := ((Fx.refl (Nat.le_refl _)).app (l := [.lst [.int 0]])).trans (gF.less (by simp))
  have hl1 : m1.length = m.length + 1 := by rw [gl]; simp
  refine log_loop (f := m.length) (m0 := m) rfl way w0 w6 (size - 1).toNat 1 [0] [0] (T + 1) m1 _ _ _ _ rfl (by omega) logP_one alOk_one ?_ hV1 (by omega) hfx hk ?_
  · rw [gF.2.2 m.length (by simp) (by omega), List.getElem?_append_right (Nat.le_refl _)]
    simp
  · intro ns' m' al' x5 x6 x7 x8 hL hlen hm' hV' hF'
    walk_at "ev"
    simp only [hm']
    refine q ns' _ hL (by omega) ?_ ?_ ?_
    · rw [List.length_take, List.length_set]
      have := hF'.2.1
      omega
    · exact (hF'.set (Nat.le_refl _)).take
    · exact ((hV'.set (by omega)).mono (by omega)).take hk
end Z.P
/-! Z9: lists of ints compared; the targets that may come next. -/
namespace Z
open PySem PySem.Spec PyProof.Rows L2
theorem eqv_ii (a b : Int) : PyData.eqv (.int a) (.int b) = decide (a = b) := by simp [PyData.eqv, BEq.beq]
theorem eqvAll_ii : ∀ xs ys : List Int, PyData.eqvAll (xs.map .int) (ys.map .int) = decide (xs = ys)
  | [], [] => by simp [PyData.eqvAll]
  | [], _ :: _ => by simp [PyData.eqvAll]
  | _ :: _, [] => by simp [PyData.eqvAll]
  | x :: xs, y :: ys => by
    rw [List.map_cons, List.map_cons, PyData.eqvAll, eqv_ii, eqvAll_ii xs ys]
    by_cases h : x = y <;> by_cases h2 : xs = ys <;> simp [h, h2]
theorem eqv_ll (xs ys : List Int) : PyData.eqv (.list (xs.map .int)) (.list (ys.map .int)) = decide (xs = ys) := by
  rw [PyData.eqv, eqvAll_ii]
theorem eqv_ll' {xs ys : List PyData} {a b : List Int} (h1 : xs = a.map .int) (h2 : ys = b.map .int) : PyData.eqv (.list xs) (.list ys) = decide (a = b) := by rw [h1, h2, eqv_ll]
theorem canLay_ints : ∀ xs : List Int, PyData.canLayAll0 (xs.map .int) = true
  | [] => rfl
  | x :: xs => by rw [List.map_cons, PyData.canLayAll0, canLay_ints xs]; rfl
theorem depth_ints : ∀ xs : List Int, PyData.depthAll (xs.map .int) ≤ 1
  | [] => by simp [PyData.depthAll]
  | x :: xs => by
    rw [List.map_cons, PyData.depthAll]
    have := depth_ints xs
    simp [PyData.depth]
    omega
theorem shaped_int (i : Int) : SeqAt.shaped (.int i) = true := rfl
theorem shaped_none : SeqAt.shaped .none = true := rfl
theorem shaped_bool (b : Bool) : SeqAt.shaped (.bool b) = true := rfl
theorem shaped_ll (xs : List Int) : SeqAt.shaped (.list (xs.map .int)) = true := by
  have h1 : PyData.canLay0 (.list (xs.map .int)) = true := by rw [PyData.canLay0, canLay_ints]
  have h2 := depth_ints xs
  have h3 : PyData.depth (.list (xs.map .int)) ≤ 64 := by rw [PyData.depth]; omega
  unfold SeqAt.shaped
  rw [h1, decide_eq_true h3]
  rfl
theorem inD_i (t : Int) (xs : List Int) : inD (.int t) (xs.map .int) = decide (t ∈ xs) := by
  unfold inD
  rw [List.any_map, Bool.eq_iff_iff, List.any_eq_true, decide_eq_true_eq]
  constructor
  · rintro ⟨x, hx, e⟩
    rw [Function.comp, eqv_ii, decide_eq_true_eq] at e
    exact e ▸ hx
  · intro h
    exact ⟨t, h, by rw [Function.comp, eqv_ii]; simp⟩
theorem flat_ints (xs : List Int) : (xs.map PyData.int).all flatD = true := by simp [flatD]
theorem map_vi (xs : List Int) : (xs.map PyData.int).map U.v = xs.map fun t => U.v (.int t) := by simp
theorem atI_last {α : Type} {l : List α} {x : α} : atI (l ++ [x]) (-1) = some x := by
  unfold atI ixN
  rw [if_neg (by omega), List.length_append, List.length_singleton, if_pos (by omega)]
  have : (-1 + ((l.length + 1 : Nat) : Int)).toNat = l.length := by omega
  rw [this]
  simp
theorem atI_last' {α : Type} {l : List α} (h : l ≠ []) : atI l (-1) = some (l.getLast h) := by
  have := atI_last (l := l.dropLast) (x := l.getLast h)
  rwa [List.dropLast_concat_getLast] at this
theorem cut_all {α : Type} {l : List α} : l.drop 0 = l := rfl
/-- l[a:] -/
theorem cutD_from (l : List PyData) (a : Nat) : cutD l (some (a : Int)) none = l.drop a := by
  unfold cutD
  rw [HT.sIx_none, HT.sIx_nat, List.take_of_length_le (by rw [List.length_drop]; omega)]
  by_cases h : a ≤ l.length
  · rw [Nat.min_eq_left h]
  · rw [Nat.min_eq_right (by omega), List.drop_of_length_le (by omega), List.drop_of_length_le (by omega)]
/-- l[:b] -/
theorem cutD_to (l : List PyData) (b : Nat) : cutD l none (some (b : Int)) = l.take b := by
  unfold cutD
  rw [HT.sIx_none, HT.sIx_nat, List.drop_zero, Nat.sub_zero]
  by_cases h : b ≤ l.length
  · rw [Nat.min_eq_left h]
  · rw [Nat.min_eq_right (by omega), List.take_of_length_le (by omega), List.take_of_length_le (by omega)]
end Z
namespace Z.P
open PySem PySem.Spec PyProof.Rows L2 Z
local macro_rules | `(tactic| walk_at "ev") => `(tactic| try simp only [dSeq, dAsg, dVar, dC, dOp, dUn, dB, dChain, dAnd, dOr, dNot, dAndV, dOrV, dNotV, dIf, dNil, dCons, dLst, dLstM, dTup, dCB, dNext, dExpr, dRet, dRetN, dFrz, dIfS, dAsgG, dPar2, dPar3, dUnp, dMeth, dCall, dSl, dPart, dNoPart, dRev, dIsN, dNotN, dIsi, dSetIx, dLRg1, dLRg2, aSortedI, aExt2, dGet, dIn, dPut, dDctM0, dDctM1, dSortSet, dGet2, sRngD, dStep, dReprL, asDs, aExtend, aIndex, aCount, aCountB, dLRgD, dLRgZ, dTry, dTryO, rCall, xRaise, endX, dIsx, dIsxT, aCmpD, sRngS, aSortD, dLenSc, dSortSc, dAug, dFor, dWhile, dLc, dLcM, lcUM, dNever, dBreak, dCont, dYes, dPick,
  aAdd, aSub, aDiv, aMod, aPow, aI, aIc, aB, aMul, aNeg, aEq, aNe, aBB, aIn, aIx, aLen, aMax, aMin, aAbs, aSum, aAll, aAny, aList, aTuple, aInt, aSorted, aRepr, aAppend, aPop, aPopAt, aReverse, aClear, nw, allD, isNone, sList, sTup, sRng1, sRng2, sEnum, sZip, gN, gN0, gN1, gT, startU, endsD, retD, wipeE, setAll, 
  List.map_cons, List.map_nil, List.length_cons, List.length_nil, List.cons_append, List.nil_append, List.replicate, List.getElem?_cons_zero, List.getElem?_cons_succ, List.set_cons_zero, List.set_cons_succ, Nat.reduceAdd, Nat.reduceSub, Nat.reduceLeDiff, Nat.zero_add, Nat.add_zero, List.take_length, if_true, if_false, decide_true, decide_false, Bool.false_eq_true, Bool.not_true, Bool.not_false, Option.isSome_some, Option.map_some, Option.map_none, Option.bind_some, List.append_nil, true_and, and_true, asI_map, asB_map, shE_i, shE_b, shE_n, shE_s, shE_l, shE_t, asL_r, asD_r, asD_v, asL_v, asQ_v, asQ_s, asS_v, asS_t, asS_s, asQ_r, asS_r])
/-- t may be the next link of ns -/
def alB (ns : List Int) (t : Nat) : Bool := (List.range ns.length).all fun i => !(decide (ns.getD i 0 < (t : Int)) && decide ((t : Int) < (i : Int)))
/-- the targets that may be the next link, in ascending order -/
def tgs (ns : List Int) : List Int := ((List.range ns.length).filter (alB ns)).map fun (t : Nat) => (t : Int)
theorem alB_iff {ns : List Int} {t : Nat} : alB ns t = true ↔ ∀ i : Nat, i < ns.length → ¬ (ns.getD i 0 < (t : Int) ∧ (t : Int) < (i : Int)) := by
  unfold alB
  simp only [List.all_eq_true, List.mem_range, Bool.not_eq_true', Bool.and_eq_false_iff, decide_eq_false_iff_not]
  constructor
  · intro h i hi z
    rcases h i hi with h | h
    · exact h z.1
    · exact h z.2
  · intro h i hi
    have := h i hi
    omega
theorem mem_tgs {ns : List Int} {t : Int} : t ∈ tgs ns ↔ ∃ k : Nat, t = (k : Int) ∧ k < ns.length ∧ alB ns k = true := by
  unfold tgs
  simp only [List.mem_map, List.mem_filter, List.mem_range]
  constructor
  · rintro ⟨k, h, rfl⟩
    exact ⟨k, rfl, h⟩
  · rintro ⟨k, rfl, h⟩
    exact ⟨k, h, rfl⟩
theorem tgs_snoc (p : List Int) (x : Int) : tgs (p ++ [x]) = (tgs p).filter (fun t => decide (t ≤ x)) ++ [(p.length : Int)] := by
  unfold tgs
  rw [List.length_append, List.length_singleton, List.range_succ, List.filter_append, List.map_append]
  have e1 : [p.length].filter (alB (p ++ [x])) = [p.length] := by
    rw [List.filter_cons_of_pos]
    · rfl
    rw [alB_iff]
    intro i hi
    simp at hi
    omega
  rw [e1, List.filter_map]
  congr 1
  rw [List.filter_filter]
  congr 1
  apply List.filter_congr
  intro t ht
  have ht' := List.mem_range.mp ht
  rw [Bool.eq_iff_iff, alB_iff, Bool.and_eq_true, alB_iff]
  simp only [Function.comp, decide_eq_true_eq]
  constructor
  · intro h
    constructor
    · have h1 := h p.length (by simp)
      rw [getD_snoc, if_neg (by omega), if_pos rfl] at h1
      omega
    · intro i hi
      have h1 := h i (by simp; omega)
      rw [getD_snoc, if_pos hi] at h1
      exact h1
  · rintro ⟨h1, h2⟩ i hi
    simp at hi
    rw [getD_snoc]
    by_cases hi2 : i < p.length
    · rw [if_pos hi2]; exact h2 i hi2
    · rw [if_neg hi2, if_pos (by omega)]; omega
theorem tgs_len (ns : List Int) : (tgs ns).length ≤ ns.length := by
  unfold tgs
  rw [List.length_map]
  have := List.length_filter_le (alB ns) (List.range ns.length)
  simpa using this
theorem tgs_one : tgs [0] = [0] := by decide
theorem tgs_one' (x : Int) : tgs [x] = [0] := by
  have := tgs_snoc [] x
  simpa [tgs] using this
theorem tgs_ok {ns : List Int} (h : ns ≠ []) : AlOk ns (tgs ns) := by
  refine ⟨?_, tgs_len ns, ?_, ?_⟩
  · rw [← List.dropLast_concat_getLast h, tgs_snoc]; simp
  · unfold tgs
    rw [List.pairwise_map]
    exact (List.pairwise_lt_range.filter _).imp fun h => by omega
  · intro t ht
    obtain ⟨k, rfl, h1, h2⟩ := mem_tgs.mp ht
    exact ⟨by omega, by omega, alB_iff.mp h2⟩
theorem tgs_last {ns : List Int} (h : ns ≠ []) : atI ((tgs ns).map PyData.int) (-1) = some (.int ((ns.length : Int) - 1)) := by
  rw [← List.dropLast_concat_getLast h, tgs_snoc, List.map_append, List.map_singleton, atI_last, List.length_dropLast]
  have := List.length_pos_iff.mpr h
  rw [List.dropLast_concat_getLast, show ((ns.length - 1 : Nat) : Int) = (ns.length : Int) - 1 by omega]
theorem tgs_head {ns : List Int} (h : FormP ns) : atI ((tgs ns).map PyData.int) 0 = some (.int 0) := by
  have h0 : alB ns 0 = true := by
    rw [alB_iff]
    intro i hi
    have := (h.2.2 i hi).1
    omega
  obtain ⟨n, e⟩ : ∃ n, ns.length = n + 1 := ⟨ns.length - 1, by have := h.1; omega⟩
  unfold tgs
  rw [e, List.range_succ_eq_map, List.filter_cons_of_pos h0, List.map_cons, List.map_cons]
  rw [atI_at (by decide) (by rw [List.length_cons]; omega)]
  rfl
theorem tgs_mem {ns : List Int} {t : Nat} (h : LogP ns) (hl : ns.length < 150) (ht : t < ns.length) : logI (ns ++ [(t : Int)]) = decide ((t : Int) ∈ tgs ns) := by
  rw [Bool.eq_iff_iff, logI_iff, decide_eq_true_eq, mem_tgs]
  constructor
  · rintro ⟨f, nx⟩
    refine ⟨t, rfl, ht, alB_iff.mpr fun i hi => ?_⟩
    have := nx i ns.length hi (by simp)
    rw [getD_snoc, getD_snoc, if_pos hi, if_neg (by omega), if_pos rfl] at this
    exact this
  · rintro ⟨k, e, hk, ha⟩
    have : k = t := by omega
    subst this
    exact logP_snoc h hl (by omega) (by omega) (alB_iff.mp ha)
theorem tgs_last_mem {ns : List Int} (h : ns ≠ []) : (ns.length : Int) - 1 ∈ tgs ns := by
  have := List.length_pos_iff.mpr h
  exact mem_tgs.mpr ⟨ns.length - 1, by omega, by omega, alB_iff.mpr fun i hi => by omega⟩
theorem tgs_zero_mem {ns : List Int} (h : FormP ns) : 0 ∈ tgs ns := by
  have := h.1
  exact mem_tgs.mpr ⟨0, rfl, by omega, alB_iff.mpr fun i hi => by have := (h.2.2 i hi).1; omega⟩
/-- a target that is allowed grows the log -/
theorem logP_grow {ns : List Int} {t : Int} (h : LogP ns) (hl : ns.length < 150) (ht : t ∈ tgs ns) : LogP (ns ++ [t]) := by
  obtain ⟨k, rfl, h1, h2⟩ := mem_tgs.mp ht
  exact logP_snoc h hl (by omega) (by omega) (alB_iff.mp h2)
theorem form_snoc {ns : List Int} {t : Int} (h : FormP ns) (hl : ns.length < 150) (h0 : 0 ≤ t) (h1 : t < ns.length) : FormP (ns ++ [t]) := by
  obtain ⟨f1, f2, f3⟩ := h
  refine ⟨by simp, by simp; omega, fun i hi => ?_⟩
  rw [getD_snoc]
  simp at hi
  by_cases h2 : i < ns.length
  · rw [if_pos h2]; exact f3 i h2
  · rw [if_neg h2, if_pos (by omega)]; omega
theorem firstX_some {ns : List Int} {p : Nat × Nat} (h : firstX ns = some p) : p.1 < p.2 ∧ p.2 < ns.length ∧ xAt ns p.1 p.2 = true := by
  unfold firstX at h
  obtain ⟨i, hi, h2⟩ := List.exists_of_findSome?_eq_some h
  obtain ⟨j, hj, rfl⟩ := Option.map_eq_some_iff.mp h2
  have h3 := List.mem_of_find?_eq_some hj
  have h4 := List.find?_some hj
  have h5 := List.mem_range'_1.mp h3
  have h6 := List.mem_range.mp hi
  exact ⟨by omega, by omega, h4⟩
/-- the crossing that a next link makes -/
theorem firstX_snoc {ns : List Int} {t : Int} {p : Nat × Nat} (h : NoX ns) (e : firstX (ns ++ [t]) = some p) : p.2 = ns.length ∧ p.1 < ns.length ∧ ns.getD p.1 0 < t ∧ t < (p.1 : Int) := by
  obtain ⟨h1, h2, h3⟩ := firstX_some e
  simp at h2
  rw [xAt_iff, getD_snoc, getD_snoc, if_pos (show p.1 < ns.length by omega)] at h3
  by_cases h4 : p.2 < ns.length
  · rw [if_pos h4] at h3
    exact (h p.1 p.2 h1 h4 h3).elim
  · rw [if_neg h4, if_pos (by omega)] at h3
    exact ⟨by omega, by omega, h3⟩
theorem getD_take (ns : List Int) (k i : Nat) : (ns.take k).getD i 0 = if i < k then ns.getD i 0 else 0 := by
  simp only [List.getD_eq_getElem?_getD, List.getElem?_take]
  split <;> simp
theorem logP_take {ns : List Int} {k : Nat} (h : LogP ns) (hk : 1 ≤ k) : LogP (ns.take k) := by
  obtain ⟨⟨f1, f2, f3⟩, nx⟩ := h
  refine ⟨⟨by rw [List.length_take]; omega, by rw [List.length_take]; omega, fun i hi => ?_⟩, fun i j hij hj => ?_⟩
  · rw [List.length_take] at hi
    rw [getD_take, if_pos (by omega)]
    exact f3 i (by omega)
  · rw [List.length_take] at hj
    rw [getD_take, getD_take, if_pos (by omega), if_pos (by omega)]
    exact nx i j hij (by omega)
/-! ### targets_of -/
def sp_targets_of : ASp := fun us m Q => ∃ (u : U) (ns : List Int), us = [u] ∧ asL m u = some (ns.map .int) ∧ ns ≠ [] ∧ ns.length ≤ 1000000 ∧ Q (.v (.list ((tgs ns).map .int))) m
theorem tg_loop {D : AEnds} {u : U} {m : Sto} {ns : List Int} (hz : ns.length ≤ 1000000) : ∀ (n a : Nat) (x2 x3 x4 : Option U), a + 1 + n = ns.length →
    (∀ x2 x3 x4 : Option U, D.nx [some u, some (.v (.list ((tgs ns).map .int))), x2, x3, x4] m) →
    forU (fun _ => True) (gT 2 (gN1 (gN 2) (gN1 (gN 3) gN0))) b1_targets_of D ((List.range' a n).map fun (i : Nat) => U.v (.tuple [.int (i : Int), .int (ns.getD (i + 1) 0)])) [some u, some (.v (.list ((tgs (ns.take (a + 1))).map .int))), x2, x3, x4] m
  | 0, a, x2, x3, x4, e, h => ⟨trivial, by rw [List.take_of_length_le (by omega)]; exact h _ _ _⟩
  | n + 1, a, x2, x3, x4, e, h => by
    rw [List.range'_succ, List.map_cons]
    refine ⟨trivial, ?_⟩
    unfold b1_targets_of
    walk_at "ev"
    simp only [guardOf, map_vi]
    have hl := tgs_len (ns.take (a + 1))
    rw [List.length_take] at hl
    refine lcU_map (fun (t : Int) => U.v (.int t)) (fun t => decide (t ≤ ns.getD (a + 1) 0)) (fun t => .int t) trivial _ _ (by simp; omega) (fun t ht K1 K2 q1 q2 => ?_) ?_
    · walk_at "ev"
      by_cases c : t ≤ ns.getD (a + 1) 0
      · simp only [c, decide_true, if_true] at q1 ⊢
        exact q1 trivial
      · simp only [c, decide_false, Bool.false_eq_true, if_false] at q2 ⊢
        exact q2 trivial
    · rw [List.nil_append]
      walk_at "ev"
      have e2 : ns.take (a + 1 + 1) = ns.take (a + 1) ++ [ns.getD (a + 1) 0] := by
        rw [List.take_succ, List.getD_eq_getElem?_getD, List.getElem?_eq_getElem (by omega)]
        rfl
      have e3 : ((tgs (ns.take (a + 1))).filter fun t => decide (t ≤ ns.getD (a + 1) 0)).map PyData.int ++ [PyData.int ((a : Int) + 1)] = (tgs (ns.take (a + 1 + 1))).map PyData.int := by
        rw [e2, tgs_snoc, List.map_append, List.length_take, Nat.min_eq_left (by omega)]
        rfl
      have hl2 := List.length_filter_le (fun t => decide (t ≤ ns.getD (a + 1) 0)) (tgs (ns.take (a + 1)))
      rw [List.length_map, e3, sizeLine_eq]
      refine ⟨by decide, by omega, ?_⟩
      exact tg_loop hz n (a + 1) _ _ _ (by omega) h
theorem enumU_tail (ns : List Int) : enumU ((ns.map PyData.int).drop 1) = (List.range' 0 (ns.length - 1)).map fun (i : Nat) => U.v (.tuple [.int (i : Int), .int (ns.getD (i + 1) 0)]) := by
  rw [← List.map_drop, enumU_ints, List.length_drop, List.range_eq_range']
  congr 1
  funext i
  simp [List.getD_eq_getElem?_getD, Nat.add_comm]
theorem sem_targets_of (us : List U) (m : Sto) (Q : QA) (h : sp_targets_of us m Q) : g_targets_of (endsD m.length Q) (startU 5 us) m := by
  obtain ⟨u, ns, rfl, hu, hne, hz, q⟩ := h
  have h1 := List.length_pos_iff.mpr hne
  unfold g_targets_of
  walk_at "ev"
  simp only [asQ_of hu, nw]
  walk_at "ev"
  rw [show (some (1 : Int)) = some ((1 : Nat) : Int) from rfl, cutD_from, enumU_tail]
  have e1 : tgs (ns.take (0 + 1)) = [0] := by
    rw [List.take_succ, List.getElem?_eq_getElem (by omega)]
    exact tgs_one' _
  have main := fun D h => tg_loop (D := D) (u := u) (m := m) hz (ns.length - 1) 0 none none none (by omega) h
  rw [e1] at main
  refine ⟨by decide, main _ fun x2 x3 x4 => ?_⟩
  walk_at "ev"
  exact q
def sp_allowed_targets : ASp := fun us m Q => ∃ (u : U) (ns : List Int), us = [u] ∧ asL m u = some (ns.map .int) ∧ LogP ns ∧ Q (.v (.list ((tgs ns).map .int))) m
theorem LogP.ne {ns : List Int} (h : LogP ns) : ns ≠ [] := List.length_pos_iff.mp h.1.1
theorem sem_allowed_targets (us : List U) (m : Sto) (Q : QA) (h : sp_allowed_targets us m Q) : g_allowed_targets sp_need_log sp_targets_of (endsD m.length Q) (startU 1 us) m := by
  obtain ⟨u, ns, rfl, hu, hl, q⟩ := h
  have hz : ns.length ≤ 1000000 := by have := hl.1.2.1; omega
  unfold g_allowed_targets
  walk_at "ev"
  refine ⟨u, ns, rfl, hu, hz, (logI_iff ns).mpr hl, ?_⟩
  walk_at "ev"
  refine ⟨u, ns, rfl, hu, hl.ne, hz, ?_⟩
  walk_at "ev"
  exact q
end Z.P
/-! ZS: shortest chains, plain: the greedy chain, and that it is as short as any. -/
namespace Z.P
open PySem PySem.Spec PyProof.Rows L2 Z
def lk (ns : List Int) (i : Nat) : Nat := (ns.getD i 0).toNat
def nxt (ns : List Int) (e cur : Nat) : Nat := if e ≤ lk ns cur then lk ns cur else cur - 1
theorem lk_int {ns : List Int} (h : LogP ns) {i : Nat} (hi : i < ns.length) : ns.getD i 0 = ((lk ns i : Nat) : Int) := by
  have := h.1.2.2 i hi
  unfold lk
  omega
theorem lk_le {ns : List Int} (h : LogP ns) {i : Nat} (hi : i < ns.length) : lk ns i ≤ i - 1 := by
  have := h.1.2.2 i hi
  unfold lk
  omega
/-- the greedy chain from cur to e -/
def gc (ns : List Int) (e cur : Nat) : List Nat := cur :: (if h : e < cur ∧ nxt ns e cur < cur then gc ns e (nxt ns e cur) else [])
termination_by cur
def G (ns : List Int) (e cur : Nat) : Nat := (gc ns e cur).length - 1
theorem gc_ne (ns : List Int) (e cur : Nat) : 1 ≤ (gc ns e cur).length := by rw [gc]; simp
theorem G_end {ns : List Int} {e cur : Nat} (h : cur ≤ e) : G ns e cur = 0 := by
  unfold G
  rw [gc, dif_neg (by omega)]
  rfl
section
variable {ns : List Int} (hL : LogP ns)
include hL
theorem nxt_lt {e cur : Nat} (hc : cur < ns.length) (h : e < cur) : nxt ns e cur < cur := by
  have := lk_le hL hc
  unfold nxt
  split <;> omega
theorem nxt_ge {e cur : Nat} (hc : cur < ns.length) (h : e < cur) : e ≤ nxt ns e cur := by
  unfold nxt
  split <;> omega
theorem gc_go {e cur : Nat} (hc : cur < ns.length) (h : e < cur) : gc ns e cur = cur :: gc ns e (nxt ns e cur) := by
  rw [gc, dif_pos ⟨h, nxt_lt hL hc h⟩]
theorem G_go {e cur : Nat} (hc : cur < ns.length) (h : e < cur) : G ns e cur = 1 + G ns e (nxt ns e cur) := by
  unfold G
  rw [gc_go hL hc h]
  have := gc_ne ns e (nxt ns e cur)
  simp
  omega
/-- an entry between a link and its entry has no link below the link -/
theorem lk_over {c x : Nat} (hc : c < ns.length) (h1 : lk ns c < x) (h2 : x < c) : lk ns c ≤ lk ns x := by
  have := hL.2 x c h2 hc
  have e1 := lk_int hL hc
  have e2 := lk_int hL (show x < ns.length by omega)
  omega
theorem G_cut {c : Nat} (hc : c < ns.length) {e : Nat} (he : e ≤ lk ns c) : ∀ n x : Nat, x ≤ n → lk ns c ≤ x → x < c → G ns e (lk ns c) ≤ G ns e x
  | 0, x, hn, h1, h2 => by
    have : lk ns c = x := by omega
    rw [this]
    exact Nat.le_refl _
  | n + 1, x, hn, h1, h2 => by
    by_cases q : lk ns c = x
    · rw [q]; exact Nat.le_refl _
    · have hx : x < ns.length := by omega
      have o := lk_over hL hc (show lk ns c < x by omega) h2
      rw [G_go hL hx (show e < x by omega)]
      have e1 : nxt ns e x = lk ns x := by unfold nxt; rw [if_pos (by omega)]
      have l1 := lk_le hL hx
      rw [e1]
      have := G_cut hc he n (lk ns x) (by omega) o (by omega)
      omega
theorem G_step {c s e : Nat} (hc : c < ns.length) (h : e < c) (hs : e ≤ s) (hss : s = lk ns c ∨ s = c - 1) : G ns e c ≤ 1 + G ns e s := by
  rw [G_go hL hc h]
  by_cases q : e ≤ lk ns c
  · have e1 : nxt ns e c = lk ns c := by unfold nxt; rw [if_pos q]
    rw [e1]
    rcases hss with rfl | rfl
    · exact Nat.le_refl _
    · have l1 := lk_le hL hc
      have := G_cut hL hc q (c - 1) (c - 1) (Nat.le_refl _) l1 (by omega)
      omega
  · have e1 : nxt ns e c = c - 1 := by unfold nxt; rw [if_neg q]
    rw [e1]
    rcases hss with rfl | rfl
    · exact absurd hs q
    · exact Nat.le_refl _
theorem nxt_succ (e c : Nat) : nxt ns e c = lk ns c ∨ nxt ns e c = c - 1 := by
  unfold nxt
  split
  · exact .inl rfl
  · exact .inr rfl
/-- a step or a link further costs at most one -/
theorem G_near {p e : Nat} (he : e < p) (hs : e = lk ns p ∨ e = p - 1) : ∀ n c : Nat, c ≤ n → p ≤ c → c < ns.length → G ns e c ≤ G ns p c + 1
  | 0, c, hn, h1, h2 => by omega
  | n + 1, c, hn, h1, h2 => by
    by_cases q : c = p
    · subst q
      have := G_step hL h2 he (Nat.le_refl e) hs
      rw [G_end (Nat.le_refl e)] at this
      omega
    · have l1 := nxt_lt hL h2 (show p < c by omega)
      have l2 := nxt_ge hL h2 (show p < c by omega)
      have h3 := G_near he hs n (nxt ns p c) (by omega) l2 (by omega)
      have h4 := G_step hL h2 (show e < c by omega) (show e ≤ nxt ns p c by omega) (nxt_succ hL p c)
      rw [G_go hL h2 (show p < c by omega)]
      omega
/-- the entry before the last one of a greedy chain -/
theorem G_last {e : Nat} : ∀ n c : Nat, c ≤ n → e < c → c < ns.length → ∃ p, e < p ∧ p ≤ c ∧ (e = lk ns p ∨ e = p - 1) ∧ G ns p c + 1 = G ns e c
  | 0, c, hn, h1, h2 => by omega
  | n + 1, c, hn, h1, h2 => by
    have l1 := nxt_lt hL h2 h1
    have l2 := nxt_ge hL h2 h1
    by_cases q : nxt ns e c = e
    · refine ⟨c, h1, Nat.le_refl _, ?_, ?_⟩
      · rcases nxt_succ hL e c with h | h <;> rw [q] at h
        · exact .inl h
        · exact .inr h
      · rw [G_end (Nat.le_refl c), G_go hL h2 h1, q, G_end (Nat.le_refl e)]
    · obtain ⟨p, p1, p2, p3, p4⟩ := G_last (e := e) n (nxt ns e c) (by omega) (by omega) (by omega)
      refine ⟨p, p1, by omega, p3, ?_⟩
      rw [G_go hL h2 h1, G_go hL h2 (show p < c by omega)]
      have e1 : nxt ns p c = nxt ns e c := by
        unfold nxt at p2 ⊢
        by_cases z : e ≤ lk ns c
        · rw [if_pos z] at p2 ⊢
          rw [if_pos p2]
        · rw [if_neg z, if_neg (by omega)]
      rw [e1]
      omega
theorem G_bound {e : Nat} : ∀ n c : Nat, c ≤ n → c < ns.length → G ns e c ≤ c
  | 0, c, hn, h2 => by rw [G_end (by omega)]; omega
  | n + 1, c, hn, h2 => by
    by_cases q : c ≤ e
    · rw [G_end q]; omega
    · have l1 := nxt_lt hL h2 (show e < c by omega)
      rw [G_go hL h2 (by omega)]
      have := G_bound (e := e) n (nxt ns e c) (by omega) (by omega)
      omega
end
/-- to be computed -/
def gF (ns : List Int) (e : Nat) : Nat → Nat → Nat
  | 0, _ => 0
  | n + 1, c => if c ≤ e then 0 else 1 + gF ns e n (nxt ns e c)
theorem G_gF {ns : List Int} (hL : LogP ns) {e : Nat} : ∀ n c : Nat, c ≤ n → c < ns.length → G ns e c = gF ns e n c
  | 0, c, hn, h2 => G_end (by omega)
  | n + 1, c, hn, h2 => by
    rw [gF]
    by_cases q : c ≤ e
    · rw [if_pos q, G_end q]
    · have l1 := nxt_lt hL h2 (show e < c by omega)
      rw [if_neg q, G_go hL h2 (by omega), G_gF hL n (nxt ns e c) (by omega) (by omega)]
end Z.P
/-! ZA: how long the repr of data is. -/
namespace Z
open PySem PySem.Spec PyProof.Rows L2
/-- data without dicts, ints of at most B signs, nested at most k deep, of weight at most n -/
structure Shw (B k n : Nat) (d : PyData) : Prop where
  lay : d.canLay0 = true
  shw : d.showable = true
  dep : d.depth ≤ k
  wt : d.weight ≤ n
  sh : PyData.intsShort B d = true
theorem Shw.mono {B k n k' n' : Nat} {d : PyData} (h : Shw B k n d) (h1 : k ≤ k') (h2 : n ≤ n') : Shw B k' n' d := ⟨h.lay, h.shw, Nat.le_trans h.dep h1, Nat.le_trans h.wt h2, h.sh⟩
theorem Shw.none {B : Nat} : Shw B 0 0 .none := ⟨rfl, rfl, by simp [PyData.depth], by simp [PyData.weight], rfl⟩
theorem Shw.bool {B : Nat} (b : Bool) : Shw B 0 0 (.bool b) := ⟨rfl, rfl, by simp [PyData.depth], by simp [PyData.weight], rfl⟩
theorem Shw.str {B : Nat} {x : Str} (h : PyData.strOk x = true) : Shw B 0 x.cps.size (.str x) := ⟨by rw [PyData.canLay0]; exact h, rfl, by simp [PyData.depth], by simp [PyData.weight], rfl⟩
theorem Shw.int {B : Nat} (j : Nat) {i : Int} (h0 : 0 < j) (hB : j + 1 ≤ B) (hj : j ≤ 400) (h : i.natAbs < 10 ^ j) : Shw B 0 (4 * j) (.int i) := by
  have h2 : i.natAbs < 2 ^ (4 * j) := by
    refine Nat.lt_of_lt_of_le h ?_
    rw [Nat.pow_mul]
    exact Nat.pow_le_pow_left (by decide) j
  have h3 := PySem.Flt.log2_lt_of (by omega) h2
  refine ⟨rfl, ?_, by simp [PyData.depth], ?_, ?_⟩
  · rw [PyData.showable, decide_eq_true_eq]; omega
  · rw [PyData.weight]; split <;> omega
  · rw [PyData.intsShort, decide_eq_true_eq]
    have e := int_text_length_le10 h0 h
    show (Str.ofString (toString i)).length ≤ B
    rw [PySem.ofString_length]
    omega
theorem Shw.all {B k n : Nat} : ∀ {xs : List PyData}, (∀ d ∈ xs, Shw B k n d) → PyData.canLayAll0 xs = true ∧ PyData.showableAll xs = true ∧ PyData.depthAll xs ≤ k ∧ PyData.weightAll xs ≤ (n + 1) * xs.length ∧ PyData.intsShortAll B xs = true
  | [], _ => ⟨rfl, rfl, by simp [PyData.depthAll], by simp [PyData.weightAll], rfl⟩
  | x :: xs, h => by
    obtain ⟨h1, h2, h3, h4, h5⟩ := Shw.all (xs := xs) fun d hd => h d (List.mem_cons_of_mem _ hd)
    obtain ⟨g1, g2, g3, g4, g5⟩ := h x List.mem_cons_self
    refine ⟨?_, ?_, ?_, ?_, ?_⟩
    · rw [PyData.canLayAll0, g1, h1]; rfl
    · rw [PyData.showableAll, g2, h2]; rfl
    · rw [PyData.depthAll]; omega
    · rw [PyData.weightAll, List.length_cons, Nat.mul_succ]; omega
    · rw [PyData.intsShortAll, g5, h5]; rfl
theorem Shw.list {B k n L : Nat} {xs : List PyData} (h : ∀ d ∈ xs, Shw B k n d) (hl : xs.length ≤ L) : Shw B (k + 1) ((n + 1) * L) (.list xs) := by
  obtain ⟨h1, h2, h3, h4, h5⟩ := Shw.all h
  have h6 := Nat.mul_le_mul_left (n + 1) hl
  exact ⟨by rw [PyData.canLay0]; exact h1, by rw [PyData.showable]; exact h2, by rw [PyData.depth]; omega, by rw [PyData.weight]; omega, by rw [PyData.intsShort]; exact h5⟩
theorem Shw.tuple {B k n L : Nat} {xs : List PyData} (h : ∀ d ∈ xs, Shw B k n d) (hl : xs.length ≤ L) : Shw B (k + 1) ((n + 1) * L) (.tuple xs) := by
  obtain ⟨h1, h2, h3, h4, h5⟩ := Shw.all h
  have h6 := Nat.mul_le_mul_left (n + 1) hl
  exact ⟨by rw [PyData.canLay0]; exact h1, by rw [PyData.showable]; exact h2, by rw [PyData.depth]; omega, by rw [PyData.weight]; omega, by rw [PyData.intsShort]; exact h5⟩
theorem Shw.shaped {B k n : Nat} {d : PyData} (h : Shw B k n d) (hk : k ≤ 64) : SeqAt.shaped d = true := by
  unfold SeqAt.shaped
  rw [h.lay, decide_eq_true (Nat.le_trans h.dep hk)]
  rfl
theorem Shw.len {B k n : Nat} {d : PyData} (h : Shw B k n d) (hB : 8 ≤ B) : d.shown.length ≤ (B + 2) * n + B :=
  Nat.le_trans (PyData.shown_le B hB d (PyData.leavesShort_of_canLay0 B d h.lay h.sh)) (Nat.add_le_add_right (Nat.mul_le_mul_left _ h.wt) _)
/-- what repr wants of data -/
def ReprOk (d : PyData) : Prop := d.canLay0 = true ∧ d.showable = true ∧ d.depth ≤ 64 ∧ d.shown.length ≤ sizeLine
theorem Shw.ok {B k n : Nat} {d : PyData} (h : Shw B k n d) (hB : 8 ≤ B) (hk : k ≤ 64) (hn : (B + 2) * n + B ≤ 16777216) : ReprOk d :=
  ⟨h.lay, h.shw, Nat.le_trans h.dep hk, by rw [sizeLine_eq]; exact Nat.le_trans (h.len hB) hn⟩
theorem aRepr_of {u : U} {d : PyData} {m : Sto} {Q : QA} (e : asD m u = some d) (h : ReprOk d) (q : Q (.v (.str d.shown)) m) : aRepr [u] m Q := by
  unfold aRepr
  simp only [e]
  exact ⟨h.1, h.2.1, h.2.2.1, h.2.2.2, q⟩
theorem Shw.ints {B : Nat} (j L : Nat) {xs : List Int} (h0 : 0 < j) (hB : j + 1 ≤ B) (hj : j ≤ 400) (hl : xs.length ≤ L) (h : ∀ i ∈ xs, i.natAbs < 10 ^ j) : Shw B 1 ((4 * j + 1) * L) (.list (xs.map .int)) :=
  Shw.list (k := 0) (fun d hd => by
    obtain ⟨i, hi, rfl⟩ := List.mem_map.mp hd
    exact Shw.int j h0 hB hj (h i hi)) (by rw [List.length_map]; exact hl)
theorem eqv_str (x : Str) : PyData.eqv (.str x) (.str x) = true := by
  rw [← eqv_ss]; simp
theorem eqv_str' (x y : Str) : PyData.eqv (.str x) (.str y) = decide (x = y) := by
  rw [← eqv_ss]; simp
theorem eqv_bb (x y : Bool) : PyData.eqv (.bool x) (.bool y) = (x == y) := by cases x <;> cases y <;> decide
theorem eqv_nn : PyData.eqv .none .none = true := rfl
end Z
/-! ZH: the draws and logs of the pot family. -/
namespace Z.P
open PySem PySem.Spec PyProof.Rows L2 Z
local macro_rules | `(tactic| walk_at "ev") => `(tactic| try simp only [dSeq, dAsg, dVar, dC, dOp, dUn, dB, dChain, dAnd, dOr, dNot, dAndV, dOrV, dNotV, dIf, dNil, dCons, dLst, dLstM, dTup, dCB, dNext, dExpr, dRet, dRetN, dFrz, dIfS, dAsgG, dPar2, dPar3, dUnp, dMeth, dCall, dSl, dPart, dNoPart, dRev, dIsN, dNotN, dIsi, dSetIx, dLRg1, dLRg2, aSortedI, aExt2, dGet, dIn, dPut, dDctM0, dDctM1, dSortSet, dGet2, sRngD, dStep, dReprL, asDs, aExtend, aIndex, aCount, aCountB, dLRgD, dLRgZ, dTry, dTryO, rCall, xRaise, endX, dIsx, dIsxT, aCmpD, sRngS, aSortD, dLenSc, dSortSc, dAug, dFor, dWhile, dLc, dLcM, lcUM, dNever, dBreak, dCont, dYes, dPick,
  aAdd, aSub, aDiv, aMod, aPow, aI, aIc, aB, aMul, aNeg, aEq, aNe, aBB, aIn, aIx, aLen, aMax, aMin, aAbs, aSum, aAll, aAny, aList, aTuple, aInt, aSorted, aRepr, aAppend, aPop, aPopAt, aReverse, aClear, nw, allD, isNone, sList, sTup, sRng1, sRng2, sEnum, sZip, gN, gN0, gN1, gT, startU, endsD, retD, wipeE, setAll, 
  List.map_cons, List.map_nil, List.length_cons, List.length_nil, List.cons_append, List.nil_append, List.replicate, List.getElem?_cons_zero, List.getElem?_cons_succ, List.set_cons_zero, List.set_cons_succ, Nat.reduceAdd, Nat.reduceSub, Nat.reduceLeDiff, Nat.zero_add, Nat.add_zero, List.take_length, if_true, if_false, decide_true, decide_false, Bool.false_eq_true, Bool.not_true, Bool.not_false, Option.isSome_some, Option.map_some, Option.map_none, Option.bind_some, List.append_nil, true_and, and_true, asI_map, asB_map, shE_i, shE_b, shE_n, shE_s, shE_l, shE_t, asL_r, asD_r, asD_v, asL_v, asQ_v, asQ_s, asS_v, asS_t, asS_s, asQ_r, asS_r])
theorem sem_law_take (us : List U) (m : Sto) (Q : QA) (h : sp_law_drip us m Q) : g_law_take (endsD m.length Q) (startU 4 us) m := by
  obtain ⟨k, T, many, rfl, ⟨a, b, c, hk, h1, h2, h3, h4, h5⟩, hT, hm, q⟩ := h
  have hm0 : 0 < many := hm.1
  have hlt := (List.getElem?_eq_some_iff.mp hk).1
  unfold g_law_take
  walk_at "ev"
  have eS : ∀ c : Cell, (m.set k c)[k]? = some c := fun c => List.getElem?_set_self hlt
  have tk : ∀ c : Cell, (m.set k c).take m.length = m.set k c := fun c => List.take_of_length_le (by rw [List.length_set]; exact Nat.le_refl _)
  have fin : ∀ (r a' b' c' : Int), 0 ≤ r → r < many → 0 ≤ a' → 0 ≤ b' → b' < 1000000000000000000000000000000000000000000000000000000000000 → 0 ≤ c' → c' ≤ (T : Int) + 1 → Q (.v (.int r)) (m.set k (.lst [.int a', .int b', .int c'])) := fun r a' b' c' g1 g2 g3 g4 g5 g6 g7 =>
    q r _ g1 g2 List.length_set ⟨Nat.le_refl _, by rw [List.length_set]; exact Nat.le_refl _, fun j _ hj => List.getElem?_set_ne (Ne.symm hj)⟩ ⟨a', b', c', eS _, g3, g4, g5, g6, by omega⟩
  by_cases ha : 0 < a
  · simp only [hk, at0, ix0, ha, decide_true, List.length_cons, List.length_nil]
    walk_at "ev"
    simp only [hk, at0, ix0]
    walk_at "ev"
    refine ⟨hm0, ⟨hm0, hm.2⟩, ?_⟩
    simp only [ix0, List.set_cons_zero, tk]
    exact fin _ _ b c (Int.emod_nonneg _ (by omega)) (Int.emod_lt_of_pos _ hm0) (Int.ediv_nonneg h1 (by omega)) h2 h3 h4 (by omega)
  · simp only [hk, at0, at1, at2, ix0, ix1, ix2, ha, decide_false, List.length_cons, List.length_nil]
    walk_at "ev"
    simp only [ix2, at0, at1, at2, List.set_cons_zero, List.set_cons_succ, eS, tk]
    walk_at "ev"
    have e41 : (10 : Int) ^ Int.toNat 41 + 37 = 100000000000000000000000000000000000000037 := by decide
    have e40 : (10 : Int) ^ Int.toNat 40 + 121 = 10000000000000000000000000000000000000121 := by decide
    simp only [e41, e40]
    have d1 : 0 ≤ (b + 8683317618811886495518194401 * (c + 1)) ^ Int.toNat 3 % 100000000000000000000000000000000000000037 := Int.emod_nonneg _ (by decide)
    have d2 : (b + 8683317618811886495518194401 * (c + 1)) ^ Int.toNat 3 % 100000000000000000000000000000000000000037 < 100000000000000000000000000000000000000037 := Int.emod_lt_of_pos _ (by decide)
    generalize (b + 8683317618811886495518194401 * (c + 1)) ^ Int.toNat 3 % 100000000000000000000000000000000000000037 = d at *
    refine ⟨ml_small (by omega), pw3 (by omega) (by omega), pw10 (by decide) (by decide), by decide, ml_small (by omega), pw3 (by omega) (by omega), pw10 (by decide) (by decide), by decide, ⟨by decide, by omega⟩, hm0, ?_⟩
    exact fin _ a b (c + 1) (Int.emod_nonneg _ (by omega)) (Int.emod_lt_of_pos _ hm0) h1 h2 h3 (by omega) (by omega)
theorem sem_law_pot (us : List U) (m : Sto) (Q : QA) (h : sp_law_vat us m Q) : g_law_pot (endsD m.length Q) (startU 3 us) m := by
  obtain ⟨ns, k, rfl, h0, h1, q⟩ := h
  unfold g_law_pot
  walk_at "ev"
  have main : ∀ x : Int, 0 ≤ x % (10 ^ Int.toNat 38 + 133) ∧ x % (10 ^ Int.toNat 38 + 133) < 10 ^ Int.toNat 38 + 133 := fun x => ⟨Int.emod_nonneg _ (by decide), Int.emod_lt_of_pos _ (by decide)⟩
  have e38 : (10 : Int) ^ Int.toNat 38 + 133 = 100000000000000000000000000000000000133 := by decide
  have e18 : (10 : Int) ^ Int.toNat 18 = 1000000000000000000 := by decide
  rw [e38] at main
  simp only [List.length_map, e38, e18]
  by_cases hk : k < (ns.length : Int)
  · obtain ⟨v, e1, e2, _⟩ := atI_exI h0 hk
    simp only [hk, decide_true, e1]
    walk_at "ev"
    obtain ⟨m1, m2⟩ := main v
    generalize v % 100000000000000000000000000000000000133 = z at *
    refine ⟨pw10 (by decide) (by decide), pw10 (by decide) (by decide), by decide, ml_small (by omega), by decide, ?_⟩
    simp only [Nat.lt_irrefl, if_false]
    simp
    refine q _ (Vt.new ?_ (by omega) (by omega)) <;> first | omega | (split <;> omega)
  · simp only [hk, decide_false]
    walk_at "ev"
    obtain ⟨m1, m2⟩ := main 0
    generalize (0 : Int) % 100000000000000000000000000000000000133 = z at *
    refine ⟨pw10 (by decide) (by decide), pw10 (by decide) (by decide), by decide, ml_small (by omega), by decide, ?_⟩
    simp only [Nat.lt_irrefl, if_false]
    simp
    refine q _ (Vt.new ?_ (by omega) (by omega)) <;> first | omega | (split <;> omega)
theorem log2_loop {D : AEnds} {k f : Nat} {sz : U} {m0 : Sto} (hf : f = m0.length) (way : Int) (hw0 : 0 ≤ way) (hw5 : way < 5) : ∀ (n a : Nat) (ns al : List Int) (T : Nat) (m1 : Sto) (x5 x6 x7 x8 : Option U),
    ns.length = a → a + n ≤ 150 → LogP ns → AlOk ns al → m1[f]? = some (.lst (ns.map .int)) → Vt k T m1 → T + 6 * n < 1000000000000 → Fx k m0.length m0 m1 → k < m0.length →
    (∀ (ns' : List Int) (m' : Sto) (al' x5 x6 x7 x8 : Option U), LogP ns' → ns'.length = a + n → m'[f]? = some (.lst (ns'.map .int)) → Vt k (T + 6 * n) m' → Fx k m0.length m0 m' →
      D.nx [some (.r k), some sz, some (.r f), al', some (.v (.int way)), x5, x6, x7, x8] m') →
    forU (fun _ => True) (gN 5) (b1_law_log_2 sp_law_drip) D ((List.range' a n).map fun (j : Nat) => U.v (.int (j : Int))) [some (.r k), some sz, some (.r f), some (.v (.list (al.map .int))), some (.v (.int way)), x5, x6, x7, x8] m1
  | 0, a, ns, al, T, m1, x5, x6, x7, x8, ha, hn, hL, hA, hm, hV, hT, hF, hk, q => ⟨trivial, q ns m1 _ _ _ _ _ hL (by omega) hm hV hF⟩
  | n + 1, a, ns, al, T, m1, x5, x6, x7, x8, ha, hn, hL, hA, hm, hV, hT, hF, hk, q => by
    rw [List.range'_succ, List.map_cons]
    refine forU_step (fun E2 m2 => ∃ (ns' al' : List Int) (x5 x6 x7 x8 : Option U), E2 = [some (.r k), some sz, some (.r f), some (.v (.list (al'.map .int))), some (.v (.int way)), x5, x6, x7, x8] ∧ ns'.length = a + 1 ∧ LogP ns' ∧ AlOk ns' al' ∧
      m2[f]? = some (.lst (ns'.map .int)) ∧ Vt k (T + 6) m2 ∧ Fx k m0.length m0 m2) trivial ?_ ?_
    · rintro E2 m2 ⟨ns', al', y5, y6, y7, y8, rfl, h1, h2, h3, h4, h5, h6⟩
      refine log2_loop hf way hw0 hw5 n (a + 1) ns' al' (T + 6) m2 _ _ _ _ h1 (by omega) h2 h3 h4 h5 (by omega) h6 hk ?_
      intro ns2 m3 al2 z5 z6 z7 z8 g1 g2 g3 g4 g5
      exact q ns2 m3 al2 z5 z6 z7 z8 g1 (by omega) g3 (g4.mono (by omega)) g5
    intro J hJ
    have hal : 0 < al.length := List.length_pos_iff.mpr hA.ne
    have hall := hA.len
    have hfl : f < m1.length := (List.getElem?_eq_some_iff.mp hm).1
    have fin : ∀ (spot : Int) (m2 : Sto) (y6 y7 : Option U), 0 ≤ spot → spot < al.length → m2.length = m1.length → m2[f]? = some (.lst (ns.map .int)) → Vt k (T + 6) m2 → Fx k m0.length m0 m2 →
        ∃ t : Int, atI (al.map PyData.int) spot = some (.int t) ∧ J [some (.r k), some sz, some (.r f), some (.v (.list (cutD (al.map PyData.int) none (some (spot + 1)) ++ [PyData.int (a : Int)]))), some (.v (.int way)), some (.v (.int (a : Int))), y6, y7, some (.v (.int spot))] (m2.set f (.lst (ns.map PyData.int ++ [.int t]))) := by
      intro spot m2 y6 y7 g1 g2 g3 g4 g5 g6
      obtain ⟨t, e1, e2, e3⟩ := atI_exI g1 g2
      refine ⟨t, e1, hJ _ _ ⟨ns ++ [t], al.take (spot.toNat + 1) ++ [(ns.length : Int)], some (.v (.int (a : Int))), y6, y7, some (.v (.int spot)), ?_, by simp; omega, ?_, ?_, ?_, ?_, ?_⟩⟩
      · have ec : cutD (al.map PyData.int) none (some (spot + 1)) = (al.take (spot.toNat + 1)).map PyData.int := by
          unfold cutD
          rw [HT.sIx_none, show spot + 1 = ((spot.toNat + 1 : Nat) : Int) by omega, HT.sIx_nat, List.drop_zero, Nat.sub_zero, List.map_take, List.length_map]
          rw [show min (spot.toNat + 1) al.length = spot.toNat + 1 by omega]
        rw [ec, List.map_append, ha]
        rfl
      · obtain ⟨q1, q2, q3⟩ := hA.ok t e3
        exact logP_snoc hL (by omega) q1 q2 q3
      · exact alOk_snoc hA e2
      · rw [List.map_append]
        exact List.getElem?_set_self (by omega)
      · exact g5.set (by omega)
      · exact g6.set (by omega)
    unfold b1_law_log_2
    walk_at "ev"
    simp only [List.length_map]
    refine ⟨k, T, _, rfl, hV, by omega, ⟨by omega, .inl (by omega)⟩, fun r1 m2 g1 g2 gl2 gF2 hV2 => ?_⟩
    walk_at "ev"
    refine ⟨k, T + 1, _, rfl, hV2, by omega, ⟨by omega, .inl (by omega)⟩, fun r2 m3 g3 g4 gl3 gF3 hV3 => ?_⟩
    walk_at "ev"
    have hp : ∃ s : Int, atI [PyData.int ((al.length : Int) - 1), PyData.int 0, PyData.int r1, PyData.int (if (al.length : Int) - 1 - r2 > 0 then (al.length : Int) - 1 - r2 else 0), PyData.int (if (al.length : Int) - 2 > 0 then (al.length : Int) - 2 else 0)] way = some (.int s) ∧ 0 ≤ s ∧ s < al.length := by
      obtain ⟨s, e1, _, e3⟩ := atI_exI (l := [(al.length : Int) - 1, 0, r1, if (al.length : Int) - 1 - r2 > 0 then (al.length : Int) - 1 - r2 else 0, if (al.length : Int) - 2 > 0 then (al.length : Int) - 2 else 0]) hw0 (by simpa using hw5)
      refine ⟨s, e1, ?_⟩
      simp only [List.mem_cons, List.not_mem_nil, or_false] at e3
      rcases e3 with e3 | e3 | e3 | e3 | e3 <;> rw [e3] <;> (try split) <;> omega
    obtain ⟨s0, hs, h0, h1⟩ := hp
    simp only [hs]
    walk_at "ev"
    refine ⟨by decide, k, T + 2, _, rfl, hV3, by omega, ⟨by omega, .inl (by omega)⟩, fun r3 m4 g5 g6 gl4 gF4 hV4 => ?_⟩
    have e4 : m4[f]? = some (.lst (ns.map .int)) := by
      rw [gF4.2.2 f (by omega) (by omega), gF3.2.2 f (by omega) (by omega), gF2.2.2 f (by omega) (by omega)]
      exact hm
    have f4 : Fx k m0.length m0 m4 := (((hF.trans (gF2.less hF.2.1)).trans (gF3.less (by have := hF.2.1; omega))).trans (gF4.less (by have := hF.2.1; omega)))
    walk_at "ev"
    simp only [eqv_ii]
    have hc : ∀ s : Int, (cutD (al.map PyData.int) none (some (s + 1))).length ≤ al.length := fun s => by
      unfold cutD
      rw [List.length_take, List.length_drop, List.length_map]
      omega
    have last : ∀ spot : Int, 0 ≤ spot → spot < al.length → ∃ t : Int, atI (al.map PyData.int) spot = some (.int t) ∧ J [some (.r k), some sz, some (.r f), some (.v (.list (cutD (al.map PyData.int) none (some (spot + 1)) ++ [PyData.int (a : Int)]))), some (.v (.int way)), some (.v (.int (a : Int))), some (.v (.int r1)), some (.v (.int (if (al.length : Int) - 1 - r2 > 0 then (al.length : Int) - 1 - r2 else 0))), some (.v (.int spot))] (m4.set f (.lst (ns.map PyData.int ++ [.int t]))) := fun spot q0 q1 => fin spot m4 _ _ q0 q1 (by omega) e4 (hV4.mono (by omega)) f4
    have sz1 : (ns.map PyData.int).length < sizeLine := by rw [List.length_map, sizeLine_eq]; omega
    have sz2 : ∀ s : Int, (cutD (al.map PyData.int) none (some (s + 1))).length + 1 ≤ sizeLine := fun s => by have := hc s; rw [sizeLine_eq]; omega
    by_cases c6 : r3 = 0
    · simp only [c6, decide_true, if_true]
      obtain ⟨t, ht, hJ2⟩ := last r1 g1 g2
      walk_at "ev"
      simp only [e4, ht]
      walk_at "ev"
      exact ⟨sz1, by decide, sz2 _, hJ2⟩
    · simp only [c6, decide_false, Bool.false_eq_true, if_false]
      obtain ⟨t, ht, hJ2⟩ := last s0 h0 h1
      walk_at "ev"
      simp only [e4, ht]
      walk_at "ev"
      exact ⟨sz1, by decide, sz2 _, hJ2⟩
theorem sem_law_log_2 (us : List U) (m : Sto) (Q : QA) (h : sp_law_log us m Q) : g_law_log_2 sp_law_drip (endsD m.length Q) (startU 9 us) m := by
  obtain ⟨k, T, size, rfl, hV, hT, h1, h2, q⟩ := h
  have hk := hV.lt
  unfold g_law_log_2
  walk_at "ev"
  refine ⟨by decide, by decide, k, T, 5, rfl, hV.app, by omega, ⟨by omega, .inl (by omega)⟩, fun way m1 w0 w5 gl gF hV1 => ?_⟩
  walk_at "ev"
  refine ⟨by omega, ?_⟩
  rw [show (1 : Int) = ((1 : Nat) : Int) from rfl, rngU_nat]
  have hfx : Fx k m.length m m1 := ((Fx.refl (Nat.le_refl _)).app (l := [.lst [.int 0]])).trans (gF.less (by simp))
  have hl1 : m1.length = m.length + 1 := by rw [gl]; simp
  refine log2_loop (f := m.length) (m0 := m) rfl way w0 w5 (size - 1).toNat 1 [0] [0] (T + 1) m1 _ _ _ _ rfl (by omega) logP_one alOk_one ?_ hV1 (by omega) hfx hk ?_
  · rw [gF.2.2 m.length (by simp) (by omega), List.getElem?_append_right (Nat.le_refl _)]
    simp
  · intro ns' m' al' x5 x6 x7 x8 hL hlen hm' hV' hF'
    walk_at "ev"
    simp only [hm']
    refine q ns' _ hL (by omega) ?_ ?_ ?_
    · rw [List.length_take, List.length_set]
      have := hF'.2.1
      omega
    · exact (hF'.set (Nat.le_refl _)).take
    · exact ((hV'.set (by omega)).mono (by omega)).take hk
end Z.P
/-! ZJ: the open targets, found one by one. -/
namespace Z
open PySem PySem.Spec PyProof.Rows L2
theorem asL_app {m c : Sto} {u : U} {l : List PyData} (h : asL m u = some l) : asL (m ++ c) u = some l := by
  cases u with
  | v d => cases d <;> first | exact h | cases h
  | r k =>
    simp only [asL] at h ⊢
    split at h
    · rename_i l' e
      cases h
      rw [List.getElem?_append_left (List.getElem?_eq_some_iff.mp e).1, e]
    · cases h
  | s l => cases h
  | o l => cases h
theorem asD_app {m c : Sto} {u : U} {d : PyData} (h : asD m u = some d) : asD (m ++ c) u = some d := by
  cases u with
  | v d => exact h
  | r k =>
    simp only [asD] at h ⊢
    split at h
    · rename_i l' e
      cases h
      rw [List.getElem?_append_left (List.getElem?_eq_some_iff.mp e).1, e]
    · rename_i l' e
      cases h
      rw [List.getElem?_append_left (List.getElem?_eq_some_iff.mp e).1, e]
    · cases h
  | s l => cases h
  | o l => cases h
end Z
namespace Z.P
open PySem PySem.Spec PyProof.Rows L2 Z
local macro_rules | `(tactic| walk_at "ev") => `(tactic| try simp only [dSeq, dAsg, dVar, dC, dOp, dUn, dB, dChain, dAnd, dOr, dNot, dAndV, dOrV, dNotV, dIf, dNil, dCons, dLst, dLstM, dTup, dCB, dNext, dExpr, dRet, dRetN, dFrz, dIfS, dAsgG, dPar2, dPar3, dUnp, dMeth, dCall, dSl, dPart, dNoPart, dRev, dIsN, dNotN, dIsi, dSetIx, dLRg1, dLRg2, aSortedI, aExt2, dGet, dIn, dPut, dDctM0, dDctM1, dSortSet, dGet2, sRngD, dStep, dReprL, asDs, aExtend, aIndex, aCount, aCountB, dLRgD, dLRgZ, dTry, dTryO, rCall, xRaise, endX, dIsx, dIsxT, aCmpD, sRngS, aSortD, dLenSc, dSortSc, dAug, dFor, dWhile, dLc, dLcM, lcUM, dNever, dBreak, dCont, dYes, dPick,
  aAdd, aSub, aDiv, aMod, aPow, aI, aIc, aB, aMul, aNeg, aEq, aNe, aBB, aIn, aIx, aLen, aMax, aMin, aAbs, aSum, aAll, aAny, aList, aTuple, aInt, aSorted, aRepr, aAppend, aPop, aPopAt, aReverse, aClear, nw, allD, isNone, sList, sTup, sRng1, sRng2, sEnum, sZip, gN, gN0, gN1, gT, startU, endsD, retD, wipeE, setAll, 
  List.map_cons, List.map_nil, List.length_cons, List.length_nil, List.cons_append, List.nil_append, List.replicate, List.getElem?_cons_zero, List.getElem?_cons_succ, List.set_cons_zero, List.set_cons_succ, Nat.reduceAdd, Nat.reduceSub, Nat.reduceLeDiff, Nat.zero_add, Nat.add_zero, List.take_length, if_true, if_false, decide_true, decide_false, Bool.false_eq_true, Bool.not_true, Bool.not_false, Option.isSome_some, Option.map_some, Option.map_none, Option.bind_some, List.append_nil, true_and, and_true, asI_map, asB_map, shE_i, shE_b, shE_n, shE_s, shE_l, shE_t, asL_r, asD_r, asD_v, asL_v, asQ_v, asQ_s, asS_v, asS_t, asS_s, asQ_r, asS_r])
def duT (ns : List Int) (a : Nat) : List Int := ((List.range a).filter (alB ns)).map fun (t : Nat) => (t : Int)
theorem duT_succ (ns : List Int) (a : Nat) : duT ns (a + 1) = if alB ns a = true then duT ns a ++ [(a : Int)] else duT ns a := by
  unfold duT
  rw [List.range_succ, List.filter_append, List.map_append]
  by_cases h : alB ns a = true
  · rw [if_pos h, List.filter_cons_of_pos h]; rfl
  · rw [if_neg h, List.filter_cons_of_neg h]; simp
theorem open_loop {D : AEnds} {u : U} {m0 : Sto} {ns : List Int} (hz : ns.length ≤ 1000) (hu0 : asL m0 u = some (ns.map .int)) : ∀ (n a : Nat) (m : Sto) (x2 x3 : Option U), a + n = ns.length → m = m0 ++ [.lst ((duT ns a).map .int)] →
    (∀ (m : Sto) (x2 x3 : Option U), m = m0 ++ [.lst ((tgs ns).map .int)] → D.nx [some u, some (.r m0.length), x2, x3] m) →
    forU (fun _ => True) (gN 2) b1_law_open D ((List.range' a n).map fun (j : Nat) => U.v (.int (j : Int))) [some u, some (.r m0.length), x2, x3] m
  | 0, a, m, x2, x3, e, he, h => ⟨trivial, h _ _ _ (by rw [he, show a = ns.length by omega]; rfl)⟩
  | n + 1, a, m, x2, x3, e, he, h => by
    rw [List.range'_succ, List.map_cons]
    refine ⟨trivial, ?_⟩
    have hm : asL m u = some (ns.map .int) := by rw [he]; exact asL_app hu0
    unfold b1_law_open
    walk_at "ev"
    simp only [asS_of hm, hm, List.length_map]
    refine ⟨by omega, ?_⟩
    rw [show ((a : Int) + 1) = ((a + 1 : Nat) : Int) by omega, rngU_nat, show ((ns.length : Int) - ((a + 1 : Nat) : Int)).toNat = ns.length - (a + 1) by omega]
    refine lcU_map (fun (j : Nat) => U.v (.int (j : Int))) (fun j => decide (ns.getD j 0 < (a : Int))) (fun j => .int j) trivial _ _ (by rw [List.length_range']; simp; omega) (fun j hj K1 K2 q1 q2 => ?_) ?_
    · have hj2 := List.mem_range'_1.mp hj
      walk_at "ev"
      simp only [asS_of hm, hm, atI_ints (show j < ns.length by omega)]
      by_cases c : ns.getD j 0 < (a : Int)
      · simp only [c, decide_true, if_true] at q1 ⊢
        exact q1 trivial
      · simp only [c, decide_false, Bool.false_eq_true, if_false] at q2 ⊢
        exact q2 trivial
    · rw [List.nil_append]
      walk_at "ev"
      have e1 : ((List.range' (a + 1) (ns.length - (a + 1))).filter fun j => decide (ns.getD j 0 < (a : Int))).map (fun (j : Nat) => PyData.int (j : Int)) = (((List.range' (a + 1) (ns.length - (a + 1))).filter fun j => decide (ns.getD j 0 < (a : Int))).map fun (j : Nat) => (j : Int)).map .int := by simp
      have e2 : decide ((((List.range' (a + 1) (ns.length - (a + 1))).filter fun j => decide (ns.getD j 0 < (a : Int))).map fun (j : Nat) => (j : Int)) = []) = alB ns a := by
        rw [Bool.eq_iff_iff, decide_eq_true_eq, List.map_eq_nil_iff, List.filter_eq_nil_iff, alB_iff]
        constructor
        · intro g i hi hx
          exact g i (List.mem_range'_1.mpr ⟨by omega, by omega⟩) (by simpa using hx.1)
        · intro g j hj hx
          have := List.mem_range'_1.mp hj
          exact g j (by omega) ⟨by simpa using hx, by omega⟩
      have sh0 := shaped_ll []
      rw [List.map_nil] at sh0
      rw [e1, show PyData.list [] = PyData.list (([] : List Int).map .int) from rfl, eqv_ll, e2]
      refine ⟨by decide, shaped_ll _, shaped_ll _, ?_⟩
      have next := duT_succ ns a
      have hlen : (duT ns a).length ≤ a := by
        unfold duT
        rw [List.length_map]
        have := List.length_filter_le (alB ns) (List.range a)
        simpa using this
      have eF : m[m0.length]? = some (.lst ((duT ns a).map .int)) := by
        rw [he, List.getElem?_append_right (Nat.le_refl _)]; simp
      by_cases c : alB ns a = true
      · simp only [c, if_true]
        walk_at "ev"
        simp only [eF]
        walk_at "ev"
        refine ⟨by rw [List.length_map, sizeLine_eq]; omega, ?_⟩
        rw [if_pos c] at next
        refine open_loop hz hu0 n (a + 1) _ _ _ (by omega) ?_ h
        · rw [he, next, List.map_append, List.set_append_right _ _ (Nat.le_refl _)]
          simp
      · rw [if_neg c] at next
        simp only [c, Bool.false_eq_true, if_false]
        exact open_loop hz hu0 n (a + 1) _ _ _ (by omega) (by rw [he, next]) h
def sp_law_open : ASp := fun us m Q => ∃ (u : U) (ns : List Int), us = [u] ∧ asL m u = some (ns.map .int) ∧ ns.length ≤ 1000 ∧ Q (.v (.list ((tgs ns).map .int))) m
theorem sem_law_open (us : List U) (m : Sto) (Q : QA) (h : sp_law_open us m Q) : g_law_open (endsD m.length Q) (startU 4 us) m := by
  obtain ⟨u, ns, rfl, hu, hz, q⟩ := h
  have hu2 : asL (m ++ [Cell.lst []]) u = some (ns.map .int) := asL_app hu
  unfold g_law_open
  walk_at "ev"
  simp only [asS_of hu2, List.length_map]
  refine ⟨by decide, by omega, by omega, ?_⟩
  rw [show rngU 0 ((ns.length : Int)).toNat = _ from rngU_nat 0 _, Int.toNat_natCast]
  refine open_loop hz hu ns.length 0 _ _ _ (by omega) rfl fun m1 x2 x3 e => ?_
  walk_at "ev"
  rw [e, List.getElem?_append_right (Nat.le_refl _)]
  simp
  exact q
end Z.P
/-! ZT: greedy_chain, depths, the search. -/
namespace Z.P
open PySem PySem.Spec PyProof.Rows L2 Z
local macro_rules | `(tactic| walk_at "ev") => `(tactic| try simp only [dSeq, dAsg, dVar, dC, dOp, dUn, dB, dChain, dAnd, dOr, dNot, dAndV, dOrV, dNotV, dIf, dNil, dCons, dLst, dLstM, dTup, dCB, dNext, dExpr, dRet, dRetN, dFrz, dIfS, dAsgG, dPar2, dPar3, dUnp, dMeth, dCall, dSl, dPart, dNoPart, dRev, dIsN, dNotN, dIsi, dSetIx, dLRg1, dLRg2, aSortedI, aExt2, dGet, dIn, dPut, dDctM0, dDctM1, dSortSet, dGet2, sRngD, dStep, dReprL, asDs, aExtend, aIndex, aCount, aCountB, dLRgD, dLRgZ, dTry, dTryO, rCall, xRaise, endX, dIsx, dIsxT, aCmpD, sRngS, aSortD, dLenSc, dSortSc, dAug, dFor, dWhile, dLc, dLcM, lcUM, dNever, dBreak, dCont, dYes, dPick,
  aAdd, aSub, aDiv, aMod, aPow, aI, aIc, aB, aMul, aNeg, aEq, aNe, aBB, aIn, aIx, aLen, aMax, aMin, aAbs, aSum, aAll, aAny, aList, aTuple, aInt, aSorted, aRepr, aAppend, aPop, aPopAt, aReverse, aClear, nw, allD, isNone, sList, sTup, sRng1, sRng2, sEnum, sZip, gN, gN0, gN1, gT, startU, endsD, retD, wipeE, setAll, 
  List.map_cons, List.map_nil, List.length_cons, List.length_nil, List.cons_append, List.nil_append, List.replicate, List.getElem?_cons_zero, List.getElem?_cons_succ, List.set_cons_zero, List.set_cons_succ, Nat.reduceAdd, Nat.reduceSub, Nat.reduceLeDiff, Nat.zero_add, Nat.add_zero, List.take_length, if_true, if_false, decide_true, decide_false, Bool.false_eq_true, Bool.not_true, Bool.not_false, Option.isSome_some, Option.map_some, Option.map_none, Option.bind_some, List.append_nil, true_and, and_true, asI_map, asB_map, shE_i, shE_b, shE_n, shE_s, shE_l, shE_t, asL_r, asD_r, asD_v, asL_v, asQ_v, asQ_s, asS_v, asS_t, asS_s, asQ_r, asS_r])
def sp_greedy_chain : ASp := fun us m Q => ∃ (u : U) (ns : List Int) (n e : Nat), us = [u, .v (.int (n : Int)), .v (.int (e : Int))] ∧ asL m u = some (ns.map .int) ∧ LogP ns ∧ n < ns.length ∧ e ≤ n ∧ Q (.v (.list ((gc ns e n).map fun (j : Nat) => .int (j : Int)))) m
theorem gc_len {ns : List Int} (hL : LogP ns) {e : Nat} : ∀ n c : Nat, c ≤ n → c < ns.length → (gc ns e c).length ≤ c + 1
  | 0, c, hn, h2 => by rw [gc, dif_neg (by omega)]; simp
  | n + 1, c, hn, h2 => by
    by_cases q : c ≤ e
    · rw [gc, dif_neg (by omega)]; simp
    · have l1 := nxt_lt hL h2 (show e < c by omega)
      rw [gc_go hL h2 (by omega), List.length_cons]
      have := gc_len hL (e := e) n (nxt ns e c) (by omega) (by omega)
      omega
theorem greedy_loop {D : AEnds} {u : U} {u1 : Option U} {ns : List Int} {e : Nat} {m0 : Sto} (hL : LogP ns) (hu : asL m0 u = some (ns.map .int)) : ∀ (c n : Nat) (pre : List PyData) (x4 : Option U), c ≤ n → c < ns.length → e ≤ c → pre.length + c ≤ 1000 →
    (∀ x4, D.nx [some u, u1, some (.v (.int (e : Int))), some (.r m0.length), x4] (m0 ++ [.lst (pre ++ (gc ns e c).map fun (j : Nat) => .int (j : Int))])) →
    whN t1_greedy_chain b1_greedy_chain D (G ns e c + 1) [some u, u1, some (.v (.int (e : Int))), some (.r m0.length), x4] (m0 ++ [.lst (pre ++ [.int (c : Int)])])
  | c, n, pre, x4, hn, hc, he, hz, h => by
    have eF : ∀ l : List PyData, (m0 ++ [Cell.lst l])[m0.length]? = some (.lst l) := fun l => by rw [List.getElem?_append_right (Nat.le_refl _)]; simp
    have eS : ∀ l l' : List PyData, (m0 ++ [Cell.lst l]).set m0.length (.lst l') = m0 ++ [.lst l'] := fun l l' => by rw [List.set_append_right _ _ (Nat.le_refl _)]; simp
    have hu2 : ∀ x : Cell, asL (m0 ++ [x]) u = some (ns.map .int) := fun x => asL_app hu
    rw [whN]
    unfold t1_greedy_chain
    walk_at "ev"
    simp only [eF, atI_last]
    by_cases q : c ≤ e
    · have q2 : ¬ ((e : Int) < (c : Int)) := by omega
      simp only [q2, decide_false, Bool.false_eq_true, if_false]
      have h' := h x4
      rw [gc, dif_neg (by omega)] at h'
      exact h'
    · have q2 : (e : Int) < (c : Int) := by omega
      simp only [q2, decide_true, if_true]
      have hG := G_go hL hc (show e < c by omega)
      have l1 := nxt_lt hL hc (show e < c by omega)
      have l2 := nxt_ge hL hc (show e < c by omega)
      unfold b1_greedy_chain
      walk_at "ev"
      simp only [eF, atI_last]
      walk_at "ev"
      simp only [asS_of (hu2 _), atI_ints hc, lk_int hL hc]
      walk_at "ev"
      simp only [eF, eS, atI_last]
      have step : ∀ x : Int, x = ((nxt ns e c : Nat) : Int) → (pre ++ [PyData.int (c : Int)]).length < sizeLine ∧ whN t1_greedy_chain b1_greedy_chain D (G ns e c) [some u, u1, some (.v (.int (e : Int))), some (.r m0.length), some (.v (.int ((lk ns c : Nat) : Int)))] (m0 ++ [.lst (pre ++ [.int (c : Int)] ++ [.int x])]) := by
        rintro x rfl
        refine ⟨by rw [List.length_append, sizeLine_eq]; simp; omega, ?_⟩
        rw [hG, Nat.add_comm]
        refine greedy_loop hL hu (nxt ns e c) n (pre ++ [.int (c : Int)]) _ (by omega) (by omega) l2 (by rw [List.length_append]; simp; omega) fun y4 => ?_
        have h' := h y4
        rw [gc_go hL hc (by omega), List.map_cons] at h'
        rw [List.append_assoc]
        exact h'
      by_cases z : e ≤ lk ns c
      · have e1 : nxt ns e c = lk ns c := by unfold nxt; rw [if_pos z]
        rw [if_pos (by rw [decide_eq_true_eq]; omega)]
        exact step _ (by rw [e1])
      · have e1 : nxt ns e c = c - 1 := by unfold nxt; rw [if_neg z]
        rw [if_neg (by rw [decide_eq_true_eq]; omega)]
        exact step _ (by rw [e1]; omega)
termination_by c => c
theorem sem_greedy_chain (us : List U) (m : Sto) (Q : QA) (h : sp_greedy_chain us m Q) : g_greedy_chain (endsD m.length Q) (startU 5 us) m := by
  obtain ⟨u, ns, n, e, rfl, hu, hL, hn, he, q⟩ := h
  have hz := hL.1.2.1
  unfold g_greedy_chain
  walk_at "ev"
  refine ⟨by decide, G ns e n + 1, ?_⟩
  refine greedy_loop hL hu n n [] _ (Nat.le_refl _) hn he (by simp; omega) fun x4 => ?_
  walk_at "ev"
  have eF : ∀ l : List PyData, (m ++ [Cell.lst l])[m.length]? = some (.lst l) := fun l => by rw [List.getElem?_append_right (Nat.le_refl _)]; simp
  have et : ∀ a b : Cell, ((m ++ [a]).set m.length b).take m.length = m := fun a b => by simp
  simp only [eF, et]
  exact q
/-- how deep the entries lie -/
def depL (ns : List Int) : List Int := (List.range ns.length).map fun e => ((G ns e (ns.length - 1) : Nat) : Int)
theorem depL_gF {ns : List Int} (hL : LogP ns) : depL ns = (List.range ns.length).map fun e => ((gF ns e (ns.length - 1) (ns.length - 1) : Nat) : Int) := by
  have := hL.1.1
  unfold depL
  exact List.map_congr_left fun e _ => by rw [G_gF hL _ _ (Nat.le_refl _) (by omega)]
theorem depth_lc {u : U} {e2 : Option U} {ns : List Int} {m : Sto} {Q : QA} (hL : LogP ns) (hu : asL m u = some (ns.map .int)) (q : Q (.v (.list ((depL ns).map .int))) m) :
    lcU (fun _ => True) (gN 2) dYes (dOp aSub (dCB aLen (dCons (dCall sp_greedy_chain (dCons (dVar 0) (dCons (dVar 1) (dCons (dVar 2) dNil)))) dNil)) (dC (.int 1))) [some u, some (.v (.int ((ns.length : Int) - 1))), e2] Q ((List.range' 0 ns.length).map fun (j : Nat) => U.v (.int (j : Int))) [] m := by
  have h1 := hL.1.1
  have h2 := hL.1.2.1
  refine lcU_map (fun (j : Nat) => U.v (.int (j : Int))) (fun _ => true) (fun j => .int ((G ns j (ns.length - 1) : Nat) : Int)) trivial (List.range' 0 ns.length) [] (by rw [List.length_range']; simp; omega) (fun j hj K1 K2 q1 q2 => ?_) ?_
  · have hj2 := List.mem_range'_1.mp hj
    walk_at "ev"
    refine ⟨u, ns, ns.length - 1, j, ?_, hu, hL, by omega, by omega, ?_⟩
    · rw [Int.ofNat_sub h1]; rfl
    · walk_at "ev"
      have h3 := gc_ne ns j (ns.length - 1)
      have e1 : (((gc ns j (ns.length - 1)).length : Nat) : Int) - 1 = ((G ns j (ns.length - 1) : Nat) : Int) := by
        unfold G; omega
      simp only [List.length_map, e1]
      exact q1 rfl
  · rw [filter_true, List.nil_append, ← List.range_eq_range']
    have e1 : (List.range ns.length).map (fun j => PyData.int ((G ns j (ns.length - 1) : Nat) : Int)) = (depL ns).map .int := by unfold depL; rw [List.map_map]; rfl
    rw [e1]
    exact q
/-- the depths as a cell -/
def sp_depths_in_2 : ASp := fun us m Q => ∃ (u : U) (ns : List Int), us = [u] ∧ asL m u = some (ns.map .int) ∧ LogP ns ∧ Q (.r m.length) (m ++ [.lst ((depL ns).map .int)])
theorem sem_depths_in_2 (us : List U) (m : Sto) (Q : QA) (h : sp_depths_in_2 us m Q) : g_depths_in_2 sp_greedy_chain (endsD m.length Q) (startU 3 us) m := by
  obtain ⟨u, ns, rfl, hu, hL, q⟩ := h
  have h1 := hL.1.1
  have h2 := hL.1.2.1
  unfold g_depths_in_2
  walk_at "ev"
  simp only [asS_of hu, List.length_map]
  refine ⟨by omega, by omega, ?_⟩
  rw [show rngU 0 ((ns.length : Int)).toNat = _ from rngU_nat 0 _, Int.toNat_natCast]
  refine depth_lc hL hu ?_
  have eF : ∀ l : List PyData, (m ++ [Cell.lst l])[m.length]? = some (.lst l) := fun l => by rw [List.getElem?_append_right (Nat.le_refl _)]; simp
  walk_at "ev"
  simp only [eF, if_neg (Nat.lt_irrefl _), List.take_left]
  exact q
def sp_depths_in : ASp := fun us m Q => ∃ (u : U) (ns : List Int), us = [u] ∧ asL m u = some (ns.map .int) ∧ LogP ns ∧ Q (.v (.list ((depL ns).map .int))) m
theorem sem_depths_in (us : List U) (m : Sto) (Q : QA) (h : sp_depths_in us m Q) : g_depths_in sp_greedy_chain (endsD m.length Q) (startU 3 us) m := by
  obtain ⟨u, ns, rfl, hu, hL, q⟩ := h
  have h1 := hL.1.1
  have h2 := hL.1.2.1
  unfold g_depths_in
  walk_at "ev"
  simp only [asS_of hu, List.length_map]
  refine ⟨by omega, by omega, ?_⟩
  rw [show rngU 0 ((ns.length : Int)).toNat = _ from rngU_nat 0 _, Int.toNat_natCast]
  refine depth_lc hL hu ?_
  walk_at "ev"
  exact q
theorem sem_depths_of_2 (us : List U) (m : Sto) (Q : QA) (h : sp_depths_in_2 us m Q) : g_depths_of sp_need_log sp_depths_in_2 (endsD m.length Q) (startU 1 us) m := by
  obtain ⟨u, ns, rfl, hu, hL, q⟩ := h
  unfold g_depths_of
  walk_at "ev"
  have eF : ∀ l : List PyData, (m ++ [Cell.lst l])[m.length]? = some (.lst l) := fun l => by rw [List.getElem?_append_right (Nat.le_refl _)]; simp
  refine ⟨u, ns, rfl, hu, by have := hL.1.2.1; omega, (logI_iff _).mpr hL, u, ns, rfl, hu, hL, ?_⟩
  walk_at "ev"
  simp only [eF, if_neg (Nat.lt_irrefl _), List.take_left]
  exact q
/-- a log as a cell -/
def sp_law_log_5 : ASp := fun us m Q => ∃ (k T : Nat) (size : Int), us = [.r k, .v (.int size)] ∧ Vt k T m ∧ T < 100000000000 ∧ 1 ≤ size ∧ size ≤ 150 ∧
  ∀ (ns : List Int) (m' : Sto), LogP ns → (ns.length : Int) = size → m'.length = m.length → Fx k m.length m m' → Vt k (T + 2000) m' → Q (.r m'.length) (m' ++ [.lst (ns.map .int)])
theorem sem_law_log_5 (us : List U) (m : Sto) (Q : QA) (h : sp_law_log_5 us m Q) : g_law_log_5 sp_law_drip (endsD m.length Q) (startU 9 us) m := by
  obtain ⟨k, T, size, rfl, hV, hT, h1, h2, q⟩ := h
  have hk := hV.lt
  have eb : b1_law_log_5 = b1_law_log_2 := rfl
  unfold g_law_log_5
  rw [eb]
  walk_at "ev"
  refine ⟨by decide, by decide, k, T, 5, rfl, hV.app, by omega, ⟨by omega, .inl (by omega)⟩, fun way m1 w0 w5 gl gF hV1 => ?_⟩
  walk_at "ev"
  refine ⟨by omega, ?_⟩
  rw [show (1 : Int) = ((1 : Nat) : Int) from rfl, rngU_nat]
  have hfx : Fx k m.length m m1 := ((Fx.refl (Nat.le_refl _)).app (l := [.lst [.int 0]])).trans (gF.less (by simp))
  have hl1 : m1.length = m.length + 1 := by rw [gl]; simp
  refine log2_loop (f := m.length) (m0 := m) rfl way w0 w5 (size - 1).toNat 1 [0] [0] (T + 1) m1 _ _ _ _ rfl (by omega) logP_one alOk_one ?_ hV1 (by omega) hfx hk ?_
  · rw [gF.2.2 m.length (by simp) (by omega), List.getElem?_append_right (Nat.le_refl _)]
    simp
  · intro ns' m' al' x5 x6 x7 x8 hL hlen hm' hV' hF'
    have el : (m'.take m.length).length = m.length := by
      rw [List.length_take]
      have := hF'.2.1
      omega
    walk_at "ev"
    simp only [hm', if_neg (Nat.lt_irrefl _)]
    have q2 := q ns' (m'.take m.length) hL (by omega) el hF'.take ((hV'.mono (by omega)).take hk)
    rw [el] at q2
    exact q2
theorem sem_law_targets (us : List U) (m : Sto) (Q : QA) (h : sp_law_open us m Q) : g_law_targets (endsD m.length Q) (startU 4 us) m := sem_law_open us m Q h
end Z.P
/-! ZV: need_range, chains found by search along the entries. -/
namespace Z.P
open PySem PySem.Spec PyProof.Rows L2 Z
local macro_rules | `(tactic| walk_at "ev") => `(tactic| try simp only [dSeq, dAsg, dVar, dC, dOp, dUn, dB, dChain, dAnd, dOr, dNot, dAndV, dOrV, dNotV, dIf, dNil, dCons, dLst, dLstM, dTup, dCB, dNext, dExpr, dRet, dRetN, dFrz, dIfS, dAsgG, dPar2, dPar3, dUnp, dMeth, dCall, dSl, dPart, dNoPart, dRev, dIsN, dNotN, dIsi, dSetIx, dLRg1, dLRg2, aSortedI, aExt2, dGet, dIn, dPut, dDctM0, dDctM1, dSortSet, dGet2, sRngD, dStep, dReprL, asDs, aExtend, aIndex, aCount, aCountB, dLRgD, dLRgZ, dTry, dTryO, rCall, xRaise, endX, dIsx, dIsxT, aCmpD, sRngS, aSortD, dLenSc, dSortSc, dAug, dFor, dWhile, dLc, dLcM, lcUM, dNever, dBreak, dCont, dYes, dPick,
  aAdd, aSub, aDiv, aMod, aPow, aI, aIc, aB, aMul, aNeg, aEq, aNe, aBB, aIn, aIx, aLen, aMax, aMin, aAbs, aSum, aAll, aAny, aList, aTuple, aInt, aSorted, aRepr, aAppend, aPop, aPopAt, aReverse, aClear, nw, allD, isNone, sList, sTup, sRng1, sRng2, sEnum, sZip, gN, gN0, gN1, gT, startU, endsD, retD, wipeE, setAll, 
  List.map_cons, List.map_nil, List.length_cons, List.length_nil, List.cons_append, List.nil_append, List.replicate, List.getElem?_cons_zero, List.getElem?_cons_succ, List.set_cons_zero, List.set_cons_succ, Nat.reduceAdd, Nat.reduceSub, Nat.reduceLeDiff, Nat.zero_add, Nat.add_zero, List.take_length, if_true, if_false, decide_true, decide_false, Bool.false_eq_true, Bool.not_true, Bool.not_false, Option.isSome_some, Option.map_some, Option.map_none, Option.bind_some, List.append_nil, true_and, and_true, asI_map, asB_map, shE_i, shE_b, shE_n, shE_s, shE_l, shE_t, asL_r, asD_r, asD_v, asL_v, asQ_v, asQ_s, asS_v, asS_t, asS_s, asQ_r, asS_r])
def sp_need_entry : ASp := fun us m Q => ∃ (u : U) (ns : List Int) (e : Nat), us = [u, .v (.int (e : Int))] ∧ asL m u = some (ns.map .int) ∧ e < ns.length ∧ Q (.v .none) m
theorem sem_need_entry (us : List U) (m : Sto) (Q : QA) (h : sp_need_entry us m Q) : g_need_entry sp_is_integer (endsD m.length Q) (startU 2 us) m := by
  obtain ⟨u, ns, e, rfl, hu, he, q⟩ := h
  unfold g_need_entry
  walk_at "ev"
  simp only [asS_of hu, List.length_map]
  refine ⟨_, _, _, _, rfl, rfl, ?_⟩
  have c : isInt (.int (e : Int)) 0 ((ns.length : Int) - 1) = true := by
    show (decide ((0 : Int) ≤ (e : Int)) && decide ((e : Int) ≤ (ns.length : Int) - 1)) = true
    simp only [Bool.and_eq_true, decide_eq_true_eq]
    omega
  rw [c]
  walk_at "ev"
  exact q
def sp_need_range : ASp := fun us m Q => ∃ (u : U) (ns : List Int) (s e : Nat), us = [u, .v (.int (s : Int)), .v (.int (e : Int))] ∧ asL m u = some (ns.map .int) ∧ s < ns.length ∧ e ≤ s ∧ Q (.v .none) m
theorem sem_need_range (us : List U) (m : Sto) (Q : QA) (h : sp_need_range us m Q) : g_need_range sp_need_entry sp_is_integer (endsD m.length Q) (startU 3 us) m := by
  obtain ⟨u, ns, s, e, rfl, hu, hs, he, q⟩ := h
  unfold g_need_range
  walk_at "ev"
  refine ⟨u, ns, s, rfl, hu, hs, ?_⟩
  walk_at "ev"
  refine ⟨_, _, _, _, rfl, rfl, ?_⟩
  have c : isInt (.int (e : Int)) 0 (s : Int) = true := by
    show (decide ((0 : Int) ≤ (e : Int)) && decide ((e : Int) ≤ (s : Int))) = true
    simp only [Bool.and_eq_true, decide_eq_true_eq]
    omega
  rw [c]
  walk_at "ev"
  exact q
/-- the greedy chain as a cell -/
def sp_greedy_chain_2 : ASp := fun us m Q => ∃ (u : U) (ns : List Int) (n e : Nat), us = [u, .v (.int (n : Int)), .v (.int (e : Int))] ∧ asL m u = some (ns.map .int) ∧ LogP ns ∧ n < ns.length ∧ e ≤ n ∧ Q (.r m.length) (m ++ [.lst ((gc ns e n).map fun (j : Nat) => .int (j : Int))])
theorem sem_greedy_chain_2 (us : List U) (m : Sto) (Q : QA) (h : sp_greedy_chain_2 us m Q) : g_greedy_chain_2 (endsD m.length Q) (startU 5 us) m := by
  obtain ⟨u, ns, n, e, rfl, hu, hL, hn, he, q⟩ := h
  have hz := hL.1.2.1
  have e1 : t1_greedy_chain_2 = t1_greedy_chain := rfl
  have e2 : b1_greedy_chain_2 = b1_greedy_chain := rfl
  unfold g_greedy_chain_2
  rw [e1, e2]
  walk_at "ev"
  refine ⟨by decide, G ns e n + 1, ?_⟩
  refine greedy_loop hL hu n n [] _ (Nat.le_refl _) hn he (by simp; omega) fun x4 => ?_
  walk_at "ev"
  have eF : ∀ l : List PyData, (m ++ [Cell.lst l])[m.length]? = some (.lst l) := fun l => by rw [List.getElem?_append_right (Nat.le_refl _)]; simp
  simp only [eF, if_neg (Nat.lt_irrefl _), List.take_left]
  exact q
theorem sem_shortest_chain_2 (us : List U) (m : Sto) (Q : QA) (h : sp_greedy_chain_2 us m Q) : g_shortest_chain sp_need_log sp_need_range sp_greedy_chain_2 (endsD m.length Q) (startU 3 us) m := by
  obtain ⟨u, ns, n, e, rfl, hu, hL, hn, he, q⟩ := h
  unfold g_shortest_chain
  walk_at "ev"
  refine ⟨u, ns, rfl, hu, by have := hL.1.2.1; omega, (logI_iff _).mpr hL, ?_⟩
  walk_at "ev"
  refine ⟨u, ns, n, e, rfl, hu, hn, he, ?_⟩
  walk_at "ev"
  refine ⟨u, ns, n, e, rfl, hu, hL, hn, he, ?_⟩
  have eF : ∀ l : List PyData, (m ++ [Cell.lst l])[m.length]? = some (.lst l) := fun l => by rw [List.getElem?_append_right (Nat.le_refl _)]; simp
  walk_at "ev"
  simp only [eF, if_neg (Nat.lt_irrefl _), List.take_left]
  exact q
/-- what may follow an entry -/
def Nx (ns : List Int) (p e : Nat) (l : List Nat) : Prop := l.Pairwise (· < ·) ∧ ∀ k, k ∈ l ↔ (k = lk ns p ∨ k = p - 1) ∧ e ≤ k ∧ k < p
def nats (l : List Nat) : List PyData := l.map fun (e : Nat) => PyData.int (e : Int)
theorem nats_ints (l : List Nat) : nats l = (l.map fun (n : Nat) => (n : Int)).map .int := by unfold nats; rw [List.map_map]; rfl
theorem ints_nats : ∀ (l : List Int), (∀ i ∈ l, 0 ≤ i) → ∃ k : List Nat, l = k.map fun (n : Nat) => (n : Int)
  | [], _ => ⟨[], rfl⟩
  | i :: l, h => by
    obtain ⟨k, rfl⟩ := ints_nats l fun j hj => h j (List.mem_cons_of_mem _ hj)
    exact ⟨i.toNat :: k, by rw [List.map_cons, Int.toNat_of_nonneg (h i List.mem_cons_self)]⟩
def sp_law_next : ASp := fun us m Q => ∃ (u : U) (ns : List Int) (p e : Nat), us = [u, .v (.int (p : Int)), .v (.int (e : Int))] ∧ asL m u = some (ns.map .int) ∧ LogP ns ∧ p < ns.length ∧ ∀ l, Nx ns p e l → l.length ≤ 2 → Q (.v (.list (nats l))) m
theorem sem_law_next (us : List U) (m : Sto) (Q : QA) (h : sp_law_next us m Q) : g_law_next (endsD m.length Q) (startU 4 us) m := by
  obtain ⟨u, ns, p, e, rfl, hu, hL, hp, q⟩ := h
  unfold g_law_next
  walk_at "ev"
  simp only [asS_of hu, atI_ints hp, lk_int hL hp]
  have ea : asI m (.v (.list [.int ((lk ns p : Nat) : Int), .int ((p : Int) - 1)])) = some [((lk ns p : Nat) : Int), (p : Int) - 1] := rfl
  simp only [ea]
  refine ⟨by decide, by simp, fun l' pw mem => ?_⟩
  have l2 : l'.length ≤ 2 := by
    have nd : l'.Nodup := pw.imp fun h => by omega
    have := nd.length_le_of_subset (l₂ := [((lk ns p : Nat) : Int), (p : Int) - 1]) fun k hk => (mem k).mp hk
    simpa using this
  have em : (l'.map PyData.int).map U.v = l'.map fun (i : Int) => U.v (.int i) := by rw [List.map_map]; rfl
  walk_at "ev"
  rw [em]
  refine lcU_map (fun (i : Int) => U.v (.int i)) (fun i => decide ((e : Int) ≤ i) && decide (i < (p : Int))) (fun i => .int i) trivial l' [] (by simp; omega) (fun i hi K1 K2 q1 q2 => ?_) ?_
  · walk_at "ev"
    by_cases c1 : (e : Int) ≤ i
    · by_cases c2 : i < (p : Int)
      · simp only [c1, c2, decide_true, Bool.and_true, if_true] at q1 ⊢
        exact q1 trivial
      · simp only [c1, c2, decide_true, decide_false, Bool.and_false, Bool.false_eq_true, if_true, if_false] at q2 ⊢
        exact q2 trivial
    · simp only [c1, decide_false, Bool.false_and, Bool.false_eq_true, if_false] at q2 ⊢
      exact q2 trivial
  · rw [List.nil_append]
    obtain ⟨k, ek⟩ := ints_nats (l'.filter fun i => decide ((e : Int) ≤ i) && decide (i < (p : Int))) fun i hi => by
      have := (List.mem_filter.mp hi).2
      simp only [Bool.and_eq_true, decide_eq_true_eq] at this
      omega
    have e2 : (l'.filter fun i => decide ((e : Int) ≤ i) && decide (i < (p : Int))).map (fun i => PyData.int i) = nats k := by rw [ek, nats_ints]
    rw [e2]
    walk_at "ev"
    have kl : k.length ≤ 2 := by
      have := congrArg List.length ek
      rw [List.length_map] at this
      have := List.length_filter_le (fun i => decide ((e : Int) ≤ i) && decide (i < (p : Int))) l'
      omega
    refine q k ⟨?_, fun j => ?_⟩ kl
    · have h1 : (k.map fun (n : Nat) => (n : Int)).Pairwise (· < ·) := ek ▸ pw.filter _
      rw [List.pairwise_map] at h1
      exact h1.imp fun h => by omega
    · have h1 : j ∈ k ↔ (j : Int) ∈ k.map fun (n : Nat) => (n : Int) := by
        rw [List.mem_map]
        constructor
        · exact fun h => ⟨j, h, rfl⟩
        · rintro ⟨a, h, e⟩
          have : a = j := by omega
          exact this ▸ h
      rw [h1, ← ek, List.mem_filter, mem]
      simp only [List.mem_cons, List.not_mem_nil, or_false, Bool.and_eq_true, decide_eq_true_eq]
      constructor
      · rintro ⟨h1, h2, h3⟩
        exact ⟨by omega, by omega, by omega⟩
      · rintro ⟨h1, h2, h3⟩
        refine ⟨?_, by omega, by omega⟩
        rcases h1 with h1 | h1
        · exact .inl (by omega)
        · by_cases z : p = 0
          · omega
          · exact .inr (by omega)
end Z.P
/-! ZW: the search along the entries, without some entry. -/
namespace Z.P
open PySem PySem.Spec PyProof.Rows L2 Z
local macro_rules | `(tactic| walk_at "ev") => `(tactic| try simp only [dSeq, dAsg, dVar, dC, dOp, dUn, dB, dChain, dAnd, dOr, dNot, dAndV, dOrV, dNotV, dIf, dNil, dCons, dLst, dLstM, dTup, dCB, dNext, dExpr, dRet, dRetN, dFrz, dIfS, dAsgG, dPar2, dPar3, dUnp, dMeth, dCall, dSl, dPart, dNoPart, dRev, dIsN, dNotN, dIsi, dSetIx, dLRg1, dLRg2, aSortedI, aExt2, dGet, dIn, dPut, dDctM0, dDctM1, dSortSet, dGet2, sRngD, dStep, dReprL, asDs, aExtend, aIndex, aCount, aCountB, dLRgD, dLRgZ, dTry, dTryO, rCall, xRaise, endX, dIsx, dIsxT, aCmpD, sRngS, aSortD, dLenSc, dSortSc, dAug, dFor, dWhile, dLc, dLcM, lcUM, dNever, dBreak, dCont, dYes, dPick,
  aAdd, aSub, aDiv, aMod, aPow, aI, aIc, aB, aMul, aNeg, aEq, aNe, aBB, aIn, aIx, aLen, aMax, aMin, aAbs, aSum, aAll, aAny, aList, aTuple, aInt, aSorted, aRepr, aAppend, aPop, aPopAt, aReverse, aClear, nw, allD, isNone, sList, sTup, sRng1, sRng2, sEnum, sZip, gN, gN0, gN1, gT, startU, endsD, retD, wipeE, setAll, 
  List.map_cons, List.map_nil, List.length_cons, List.length_nil, List.cons_append, List.nil_append, List.replicate, List.getElem?_cons_zero, List.getElem?_cons_succ, List.set_cons_zero, List.set_cons_succ, Nat.reduceAdd, Nat.reduceSub, Nat.reduceLeDiff, Nat.zero_add, Nat.add_zero, List.take_length, if_true, if_false, decide_true, decide_false, Bool.false_eq_true, Bool.not_true, Bool.not_false, Option.isSome_some, Option.map_some, Option.map_none, Option.bind_some, List.append_nil, true_and, and_true, asI_map, asB_map, shE_i, shE_b, shE_n, shE_s, shE_l, shE_t, asL_r, asD_r, asD_v, asL_v, asQ_v, asQ_s, asS_v, asS_t, asS_s, asQ_r, asS_r])
def mapN (f : List (Nat × Nat)) : List (PyData × PyData) := f.map fun p => (PyData.int (p.1 : Int), PyData.int (p.2 : Int))
def lookN (f : List (Nat × Nat)) (k : Nat) : Option Nat := (f.find? fun p => decide (p.1 = k)).map (·.2)
theorem lookN_cons (p : Nat × Nat) (f : List (Nat × Nat)) (k : Nat) : lookN (p :: f) k = if p.1 = k then some p.2 else lookN f k := by
  unfold lookN
  by_cases c : p.1 = k
  · rw [List.find?_cons_of_pos (by simpa using c), if_pos c]; rfl
  · rw [List.find?_cons_of_neg (by simpa using c), if_neg c]
theorem look_mapN (k : Nat) : ∀ f : List (Nat × Nat), lookD (mapN f) (.int (k : Int)) = (lookN f k).map fun (v : Nat) => PyData.int (v : Int)
  | [] => rfl
  | p :: f => by
    rw [lookN_cons]
    show lookD ((.int (p.1 : Int), .int (p.2 : Int)) :: mapN f) _ = _
    have ih := look_mapN k f
    unfold lookD at ih ⊢
    by_cases c : p.1 = k
    · rw [List.find?_cons_of_pos (by simp [keyOf]; omega), if_pos c]; rfl
    · rw [List.find?_cons_of_neg (by simp [keyOf]; omega), if_neg c]
      exact ih
theorem lookN_map (k v : Nat) : ∀ (f : List (Nat × Nat)) (j : Nat), lookN (f.map fun p => if p.1 = k then (p.1, v) else p) j = if j = k then (lookN f k).map fun _ => v else lookN f j
  | [], j => by
    split <;> rfl
  | p :: f, j => by
    rw [List.map_cons, lookN_cons, lookN_cons, lookN_cons, lookN_map k v f j]
    by_cases c1 : p.1 = k
    · by_cases c2 : j = k
      · subst c2
        simp [c1]
      · have c3 : ¬ p.1 = j := by omega
        have c4 : ¬ k = j := by omega
        simp [c1, c2, c3, c4]
    · by_cases c2 : j = k
      · subst c2
        simp [c1]
      · simp [c1, c2]
theorem lookN_snoc (k v : Nat) : ∀ (f : List (Nat × Nat)) (j : Nat), lookN f k = none → lookN (f ++ [(k, v)]) j = if j = k then some v else lookN f j
  | [], j, _ => by
    rw [List.nil_append, lookN_cons]
    by_cases c : j = k
    · rw [if_pos c, if_pos c.symm]
    · rw [if_neg c, if_neg (Ne.symm c)]
  | p :: f, j, h => by
    rw [lookN_cons] at h
    by_cases c : p.1 = k
    · rw [if_pos c] at h; cases h
    · rw [if_neg c] at h
      rw [List.cons_append, lookN_cons, lookN_cons, lookN_snoc k v f j h]
      by_cases c2 : p.1 = j
      · rw [if_pos c2, if_pos c2, if_neg (by omega)]
      · rw [if_neg c2, if_neg c2]
theorem any_mapN (k : Nat) : ∀ f : List (Nat × Nat), ((mapN f).any fun p => decide (keyOf p.1 = keyOf (PyData.int (k : Int)))) = (lookN f k).isSome
  | [] => rfl
  | p :: f => by
    rw [lookN_cons]
    show (((PyData.int (p.1 : Int), PyData.int (p.2 : Int)) :: mapN f).any _) = _
    rw [List.any_cons, any_mapN k f]
    by_cases c : p.1 = k
    · rw [if_pos c]; simp [keyOf, c]
    · rw [if_neg c]
      have : decide (keyOf (PyData.int (p.1 : Int)) = keyOf (PyData.int (k : Int))) = false := by simp [keyOf]; omega
      rw [this, Bool.false_or]
theorem put_mapN (f : List (Nat × Nat)) (k v : Nat) : ∃ f', putD (mapN f) (.int (k : Int)) (.int (v : Int)) = mapN f' ∧ (∀ j, lookN f' j = if j = k then some v else lookN f j) ∧ f'.length ≤ f.length + 1 := by
  unfold putD
  rw [any_mapN]
  cases c : lookN f k with
  | some w =>
    refine ⟨f.map fun p => if p.1 = k then (p.1, v) else p, ?_, fun j => ?_, by simp⟩
    · rw [if_pos (show (some w).isSome = true from rfl)]
      unfold mapN
      rw [List.map_map, List.map_map]
      refine List.map_congr_left fun p _ => ?_
      by_cases e : p.1 = k
      · simp [keyOf, e]
      · have e2 : ¬ ((p.1 : Int) = (k : Int)) := by omega
        simp [keyOf, e, e2]
    · rw [lookN_map, c]; rfl
  | none =>
    refine ⟨f ++ [(k, v)], ?_, fun j => lookN_snoc k v f j c, by simp⟩
    rw [if_neg (by simp)]
    unfold mapN
    rw [List.map_append]; rfl
/-! ### what the search has found -/
structure LS (ns : List Int) (s e : Nat) (wo : Option Nat) (c : Nat) (f : List (Nat × Nat)) : Prop where
  key : ∀ k v, lookN f k = some v → e ≤ k ∧ k ≤ s ∧ G ns k s ≤ v
  start : lookN f s = some 0
  next : ∀ p v, c < p → p ≤ s → lookN f p = some v → wo ≠ some p → ∀ k, (k = lk ns p ∨ k = p - 1) → e ≤ k → ∃ w, lookN f k = some w ∧ w ≤ v + 1
  closed : ∀ P : Nat → Prop, P s → (∀ p, P p → p ≤ s → e < p → wo ≠ some p → ∀ k, (k = lk ns p ∨ k = p - 1) → e ≤ k → P k) → ∀ k v, lookN f k = some v → P k
  len : f.length ≤ 1 + 2 * (s - c)
theorem LS.first {ns : List Int} {s e : Nat} {wo : Option Nat} (he : e ≤ s) : LS ns s e wo s [(s, 0)] := by
  have h0 : ∀ k v, lookN [(s, 0)] k = some v → k = s ∧ v = 0 := fun k v h => by
    rw [lookN_cons] at h
    by_cases c : s = k
    · rw [if_pos c] at h; cases h; exact ⟨c.symm, rfl⟩
    · rw [if_neg c] at h; cases h
  refine ⟨fun k v h => ?_, by rw [lookN_cons, if_pos rfl], fun p v h1 h2 => by omega, fun P h1 _ k v h => by rw [(h0 k v h).1]; exact h1, by simp⟩
  obtain ⟨rfl, rfl⟩ := h0 k v h
  exact ⟨he, Nat.le_refl _, by rw [G_end (Nat.le_refl _)]; exact Nat.le_refl _⟩
/-- while the entries behind p are put in -/
structure LM (ns : List Int) (s e : Nat) (wo : Option Nat) (p v : Nat) (f0 f : List (Nat × Nat)) : Prop where
  key : ∀ k v, lookN f k = some v → e ≤ k ∧ k ≤ s ∧ G ns k s ≤ v
  same : ∀ j, p ≤ j → lookN f j = lookN f0 j
  less : ∀ j w, lookN f0 j = some w → ∃ w', lookN f j = some w' ∧ w' ≤ w
  closed : ∀ P : Nat → Prop, P s → (∀ p, P p → p ≤ s → e < p → wo ≠ some p → ∀ k, (k = lk ns p ∨ k = p - 1) → e ≤ k → P k) → ∀ k v, lookN f k = some v → P k
theorem LM.put {ns : List Int} (hL : LogP ns) {s e : Nat} {wo : Option Nat} {p v k : Nat} {f0 f f' : List (Nat × Nat)} (hs : s < ns.length) (hp : lookN f0 p = some v) (hps : p ≤ s) (hep : e < p) (hwo : wo ≠ some p) (h : LM ns s e wo p v f0 f) (hk : k = lk ns p ∨ k = p - 1) (hek : e ≤ k) (hkp : k < p)
    (hf : ∀ j, lookN f' j = if j = k then some (min ((lookN f k).getD 1000000) (v + 1)) else lookN f j) : LM ns s e wo p v f0 f' ∧ ∃ w, lookN f' k = some w ∧ w ≤ v + 1 := by
  have hpv : lookN f p = some v := by rw [h.same p (Nat.le_refl _)]; exact hp
  have gp := (h.key p v hpv).2.2
  have gk := G_near hL hkp hk _ s (Nat.le_refl _) hps hs
  have gb := G_bound hL (e := k) _ s (Nat.le_refl _) hs
  have hz := hL.1.2.1
  have hkk : lookN f' k = some (min ((lookN f k).getD 1000000) (v + 1)) := by rw [hf, if_pos rfl]
  refine ⟨⟨fun j w hj => ?_, fun j hj => ?_, fun j w hj => ?_, fun P h1 h2 j w hj => ?_⟩, _, hkk, Nat.min_le_right _ _⟩
  · rw [hf] at hj
    by_cases c : j = k
    · rw [if_pos c] at hj
      cases hj
      refine ⟨by omega, by omega, ?_⟩
      rw [c]
      refine Nat.le_min.mpr ⟨?_, by omega⟩
      cases q : lookN f k with
      | none => show _ ≤ 1000000; omega
      | some w => exact (h.key k w q).2.2
    · rw [if_neg c] at hj
      exact h.key j w hj
  · rw [hf, if_neg (by omega)]
    exact h.same j hj
  · obtain ⟨w', q1, q2⟩ := h.less j w hj
    by_cases c : j = k
    · subst c
      refine ⟨_, hkk, ?_⟩
      rw [q1]
      exact Nat.le_trans (Nat.min_le_left _ _) q2
    · exact ⟨w', by rw [hf, if_neg c]; exact q1, q2⟩
  · rw [hf] at hj
    by_cases c : j = k
    · subst c
      exact h2 p (h.closed P h1 h2 p v hpv) hps hep hwo j hk hek
    · rw [if_neg c] at hj
      exact h.closed P h1 h2 j w hj
theorem LM.done {ns : List Int} {s e : Nat} {wo : Option Nat} {p v : Nat} {f0 f : List (Nat × Nat)} (hL : LogP ns) (hs : s < ns.length) (h0 : LS ns s e wo p f0) (hp : lookN f0 p = some v) (hps : p ≤ s) (hep : e < p) (h : LM ns s e wo p v f0 f) (hd : ∀ k, (k = lk ns p ∨ k = p - 1) → e ≤ k → ∃ w, lookN f k = some w ∧ w ≤ v + 1) (hl : f.length ≤ f0.length + 2) : LS ns s e wo (p - 1) f := by
  refine ⟨h.key, by rw [h.same s hps]; exact h0.start, fun q w h1 h2 h3 h4 k hk hek => ?_, h.closed, by have := h0.len; omega⟩
  by_cases c : q = p
  · subst c
    rw [h.same q (Nat.le_refl _), hp] at h3
    cases h3
    exact hd k hk hek
  · rw [h.same q (by omega)] at h3
    obtain ⟨w1, q1, q2⟩ := h0.next q w (by omega) h2 h3 h4 k hk hek
    obtain ⟨w2, q3, q4⟩ := h.less k w1 q1
    exact ⟨w2, q3, by omega⟩
theorem LS.skip {ns : List Int} {s e : Nat} {wo : Option Nat} {p : Nat} {f : List (Nat × Nat)} (h : LS ns s e wo p f) (hp : lookN f p = none ∨ wo = some p) (hps : p ≤ s) : LS ns s e wo (p - 1) f := by
  refine ⟨h.key, h.start, fun q w h1 h2 h3 h4 k hk hek => ?_, h.closed, by have := h.len; omega⟩
  by_cases c : q = p
  · subst c
    rcases hp with z | z
    · rw [z] at h3; cases h3
    · exact absurd z h4
  · exact h.next q w (by omega) h2 h3 h4 k hk hek
/-- nothing left out: the greedy depths -/
theorem LS.full {ns : List Int} (hL : LogP ns) {s e : Nat} (hs : s < ns.length) {f : List (Nat × Nat)} (h : LS ns s e none e f) : ∀ n c : Nat, s - c ≤ n → e ≤ c → c ≤ s → lookN f c = some (G ns c s)
  | 0, c, hn, h1, h2 => by
    have : c = s := by omega
    rw [this, h.start, G_end (Nat.le_refl _)]
  | n + 1, c, hn, h1, h2 => by
    by_cases q : c = s
    · rw [q, h.start, G_end (Nat.le_refl _)]
    · obtain ⟨p, p1, p2, p3, p4⟩ := G_last hL (e := c) _ s (Nat.le_refl _) (by omega) hs
      have hp := LS.full hL hs h n p (by omega) (by omega) p2
      obtain ⟨w, w1, w2⟩ := h.next p _ (by omega) p2 hp (by simp) c p3 h1
      have := (h.key c w w1).2.2
      rw [w1]
      congr 1
      omega
theorem gc_le {ns : List Int} (hL : LogP ns) {e x : Nat} : ∀ n c : Nat, c ≤ n → c < ns.length → x ∈ gc ns e c → x ≤ c
  | 0, c, hn, hc, hx => by
    rw [gc, dif_neg (by omega)] at hx
    have : x = c := by simpa using hx
    omega
  | n + 1, c, hn, hc, hx => by
    by_cases q : c ≤ e
    · rw [gc, dif_neg (by omega)] at hx
      have : x = c := by simpa using hx
      omega
    · rw [gc_go hL hc (by omega)] at hx
      have l1 := nxt_lt hL hc (show e < c by omega)
      rcases List.mem_cons.mp hx with rfl | hx
      · exact Nat.le_refl _
      · have := gc_le hL n (nxt ns e c) (by omega) (by omega) hx
        omega
/-- an entry of the greedy chain can not be passed by -/
theorem gc_cut {ns : List Int} (hL : LogP ns) {e x : Nat} : ∀ n c : Nat, c ≤ n → c < ns.length → x ∈ gc ns e c → ∀ p, x < p → p ≤ c → ∀ k, (k = lk ns p ∨ k = p - 1) → e ≤ k → x ≤ k
  | 0, c, hn, hc, hx, p, h1, h2, k, hk, hek => by omega
  | n + 1, c, hn, hc, hx, p, h1, h2, k, hk, hek => by
    by_cases q : c ≤ e
    · rw [gc, dif_neg (by omega)] at hx
      have : x = c := by simpa using hx
      omega
    · rw [gc_go hL hc (by omega)] at hx
      have l1 := nxt_lt hL hc (show e < c by omega)
      rcases List.mem_cons.mp hx with rfl | hx
      · omega
      · have hxn : x ≤ nxt ns e c := gc_le hL _ _ (Nat.le_refl _) (by omega) hx
        by_cases z : p ≤ nxt ns e c
        · exact gc_cut hL n _ (by omega) (by omega) hx p h1 z k hk hek
        · have hnk : nxt ns e c ≤ k := by
            have lc := lk_le hL hc
            unfold nxt at z ⊢ l1
            by_cases w : e ≤ lk ns c
            · rw [if_pos w] at z ⊢
              by_cases y : p = c
              · subst y
                rcases hk with rfl | rfl <;> omega
              · have := lk_over hL hc (show lk ns c < p by omega) (by omega)
                rcases hk with rfl | rfl <;> omega
            · rw [if_neg w] at z ⊢
              have : p = c := by omega
              subst this
              rcases hk with rfl | rfl <;> omega
          omega
theorem LS.cut {ns : List Int} (hL : LogP ns) {s e x : Nat} (hs : s < ns.length) {f : List (Nat × Nat)} (h : LS ns s e (some x) e f) (hx : x ∈ gc ns e s) (hxe : e < x) : lookN f e = none := by
  have hxs : x ≤ s := gc_le hL _ _ (Nat.le_refl _) hs hx
  cases q : lookN f e with
  | none => rfl
  | some v =>
    have := h.closed (fun k => x ≤ k) hxs (fun p h1 h2 h3 h4 k hk hek => gc_cut hL _ s (Nat.le_refl _) hs hx p (by
      have : p ≠ x := fun z => h4 (by rw [z])
      omega) h2 k hk hek) e v q
    omega
end Z.P
/-! ZX: _law_lengths. -/
namespace Z.P
open PySem PySem.Spec PyProof.Rows L2 Z
local macro_rules | `(tactic| walk_at "ev") => `(tactic| try simp only [dSeq, dAsg, dVar, dC, dOp, dUn, dB, dChain, dAnd, dOr, dNot, dAndV, dOrV, dNotV, dIf, dNil, dCons, dLst, dLstM, dTup, dCB, dNext, dExpr, dRet, dRetN, dFrz, dIfS, dAsgG, dPar2, dPar3, dUnp, dMeth, dCall, dSl, dPart, dNoPart, dRev, dIsN, dNotN, dIsi, dSetIx, dLRg1, dLRg2, aSortedI, aExt2, dGet, dIn, dPut, dDctM0, dDctM1, dSortSet, dGet2, sRngD, dStep, dReprL, asDs, aExtend, aIndex, aCount, aCountB, dLRgD, dLRgZ, dTry, dTryO, rCall, xRaise, endX, dIsx, dIsxT, aCmpD, sRngS, aSortD, dLenSc, dSortSc, dAug, dFor, dWhile, dLc, dLcM, lcUM, dNever, dBreak, dCont, dYes, dPick,
  aAdd, aSub, aDiv, aMod, aPow, aI, aIc, aB, aMul, aNeg, aEq, aNe, aBB, aIn, aIx, aLen, aMax, aMin, aAbs, aSum, aAll, aAny, aList, aTuple, aInt, aSorted, aRepr, aAppend, aPop, aPopAt, aReverse, aClear, nw, allD, isNone, sList, sTup, sRng1, sRng2, sEnum, sZip, gN, gN0, gN1, gT, startU, endsD, retD, wipeE, setAll, 
  List.map_cons, List.map_nil, List.length_cons, List.length_nil, List.cons_append, List.nil_append, List.replicate, List.getElem?_cons_zero, List.getElem?_cons_succ, List.set_cons_zero, List.set_cons_succ, Nat.reduceAdd, Nat.reduceSub, Nat.reduceLeDiff, Nat.zero_add, Nat.add_zero, List.take_length, if_true, if_false, decide_true, decide_false, Bool.false_eq_true, Bool.not_true, Bool.not_false, Option.isSome_some, Option.map_some, Option.map_none, Option.bind_some, List.append_nil, true_and, and_true, asI_map, asB_map, shE_i, shE_b, shE_n, shE_s, shE_l, shE_t, asL_r, asD_r, asD_v, asL_v, asQ_v, asQ_s, asS_v, asS_t, asS_s, asQ_r, asS_r])
def woD : Option Nat → PyData
  | none => .none
  | some x => .int (x : Int)
theorem kI (i : Int) : keyOf (.int i) = some (.inl i) := rfl
section
variable {m0 : Sto} {f f' : List (Nat × Nat)}
theorem mp_F : (m0 ++ [Cell.dct (mapN f)])[m0.length]? = some (.dct (mapN f)) := by rw [List.getElem?_append_right (Nat.le_refl _)]; simp
theorem mp_K : asK (m0 ++ [Cell.dct (mapN f)]) (.r m0.length) = some (mapN f) := by simp only [asK, mp_F]
theorem mp_S : (m0 ++ [Cell.dct (mapN f)]).set m0.length (.dct (mapN f')) = m0 ++ [.dct (mapN f')] := by rw [List.set_append_right _ _ (Nat.le_refl _)]; simp
end
theorem later_step {D : AEnds} {u0 u1 u2 u3 : Option U} {m0 : Sto} {ns : List Int} (hL : LogP ns) {s e : Nat} {wo : Option Nat} {p v k : Nat} {f0 f : List (Nat × Nat)} (hs : s < ns.length) (hp : lookN f0 p = some v) (hps : p ≤ s) (hep : e < p) (hwo : wo ≠ some p) (h : LM ns s e wo p v f0 f) (hk : k = lk ns p ∨ k = p - 1) (hek : e ≤ k) (hkp : k < p) (hfl : f.length ≤ 1000)
    (K : ∀ f', LM ns s e wo p v f0 f' → (∃ w, lookN f' k = some w ∧ w ≤ v + 1) → (∀ j w, lookN f j = some w → ∃ w', lookN f' j = some w' ∧ w' ≤ w) → f'.length ≤ f.length + 1 → D.nx [u0, u1, u2, u3, some (.r m0.length), some (.v (.int (p : Int))), some (.v (.int (k : Int)))] (m0 ++ [.dct (mapN f')])) :
    b1_law_lengths sp_law_next D [u0, u1, u2, u3, some (.r m0.length), some (.v (.int (p : Int))), some (.v (.int (k : Int)))] (m0 ++ [.dct (mapN f)]) := by
  have hpv : lookN f p = some v := by rw [h.same p (Nat.le_refl _)]; exact hp
  unfold b1_law_lengths
  walk_at "ev"
  simp only [mp_K, kI, look_mapN, hpv]
  walk_at "ev"
  have e6 : (10 : Int) ^ Int.toNat 6 = ((1000000 : Nat) : Int) := by decide
  have eg : ((lookN f k).map fun (v : Nat) => PyData.int (v : Int)).getD (.int ((10 : Int) ^ Int.toNat 6)) = .int (((lookN f k).getD 1000000 : Nat) : Int) := by
    rw [e6]
    cases lookN f k <;> rfl
  rw [eg]
  walk_at "ev"
  simp only [mp_F]
  obtain ⟨f', e1, e2, e3⟩ := put_mapN f k (min ((lookN f k).getD 1000000) (v + 1))
  have ev : (if (v : Int) + 1 < (((lookN f k).getD 1000000 : Nat) : Int) then (v : Int) + 1 else (((lookN f k).getD 1000000 : Nat) : Int)) = ((min ((lookN f k).getD 1000000) (v + 1) : Nat) : Int) := by
    split <;> omega
  rw [ev, e1, mp_S]
  obtain ⟨h1, h2⟩ := h.put hL hs hp hps hep hwo hk hek hkp e2
  refine ⟨pw10 (by decide) (by decide), by unfold mapN; rw [List.length_map, sizeLine_eq]; omega, K f' h1 h2 (fun j w hj => ?_) e3⟩
  by_cases c : j = k
  · subst c
    refine ⟨_, by rw [e2, if_pos rfl], ?_⟩
    rw [hj]
    exact Nat.min_le_left _ _
  · exact ⟨w, by rw [e2, if_neg c]; exact hj, Nat.le_refl _⟩
theorem later_loop {D : AEnds} {u0 u1 u2 u3 : Option U} {m0 : Sto} {ns : List Int} (hL : LogP ns) {s e : Nat} {wo : Option Nat} {p v : Nat} {f0 : List (Nat × Nat)} (hs : s < ns.length) (hp : lookN f0 p = some v) (hps : p ≤ s) (hep : e < p) (hwo : wo ≠ some p) : ∀ (l : List Nat) (f : List (Nat × Nat)) (x6 : Option U),
    (∀ k ∈ l, (k = lk ns p ∨ k = p - 1) ∧ e ≤ k ∧ k < p) → LM ns s e wo p v f0 f → f.length + l.length ≤ 1000 →
    (∀ f' x6, LM ns s e wo p v f0 f' → (∀ k ∈ l, ∃ w, lookN f' k = some w ∧ w ≤ v + 1) → (∀ j w, lookN f j = some w → ∃ w', lookN f' j = some w' ∧ w' ≤ w) → f'.length ≤ f.length + l.length → D.nx [u0, u1, u2, u3, some (.r m0.length), some (.v (.int (p : Int))), x6] (m0 ++ [.dct (mapN f')])) →
    forU (fun _ => True) (gN 6) (b1_law_lengths sp_law_next) D ((nats l).map U.v) [u0, u1, u2, u3, some (.r m0.length), some (.v (.int (p : Int))), x6] (m0 ++ [.dct (mapN f)])
  | [], f, x6, hk, h, hl, K => ⟨trivial, K f _ h (fun k hk => nomatch hk) (fun j w hj => ⟨w, hj, Nat.le_refl _⟩) (Nat.le_refl _)⟩
  | k :: l, f, x6, hk, h, hl, K => by
    rw [List.length_cons] at hl
    refine ⟨trivial, ?_⟩
    simp only [gN, List.set_cons_succ, List.set_cons_zero]
    obtain ⟨k1, k2, k3⟩ := hk k List.mem_cons_self
    refine later_step hL hs hp hps hep hwo h k1 k2 k3 (by omega) fun f1 h1 d1 g1 l1 => ?_
    refine later_loop hL hs hp hps hep hwo l f1 _ (fun j hj => hk j (List.mem_cons_of_mem _ hj)) h1 (by omega) fun f2 y6 h2 d2 g2 l2 => ?_
    refine K f2 _ h2 (fun j hj => ?_) (fun j w hj => ?_) (by rw [List.length_cons]; omega)
    · rcases List.mem_cons.mp hj with rfl | hj
      · obtain ⟨w, q1, q2⟩ := d1
        obtain ⟨w', q3, q4⟩ := g2 _ w q1
        exact ⟨w', q3, by omega⟩
      · exact d2 j hj
    · obtain ⟨w1, q1, q2⟩ := g1 j w hj
      obtain ⟨w2, q3, q4⟩ := g2 j w1 q1
      exact ⟨w2, q3, by omega⟩
theorem entry_step {D : AEnds} {u : U} {u1 : Option U} {m0 : Sto} {ns : List Int} (hL : LogP ns) (hu : asL m0 u = some (ns.map .int)) {s e : Nat} {wo : Option Nat} {p : Nat} {f : List (Nat × Nat)} (hs : s < ns.length) (hps : p ≤ s) (hep : e < p) (h : LS ns s e wo p f) (x6 : Option U)
    (K : ∀ f' x6, LS ns s e wo (p - 1) f' → D.nx [some u, u1, some (.v (.int (e : Int))), some (.v (woD wo)), some (.r m0.length), some (.v (.int (p : Int))), x6] (m0 ++ [.dct (mapN f')])) :
    b2_law_lengths sp_law_next D [some u, u1, some (.v (.int (e : Int))), some (.v (woD wo)), some (.r m0.length), some (.v (.int (p : Int))), x6] (m0 ++ [.dct (mapN f)]) := by
  have hz := hL.1.2.1
  have fl := h.len
  have shw : shE (.int (p : Int)) (woD wo) = true ∧ shE (woD wo) (.int (p : Int)) = true := by
    cases wo with
    | none => exact ⟨rfl, rfl⟩
    | some x => exact ⟨rfl, rfl⟩
  have eqw : (PyData.int (p : Int)).eqv (woD wo) = decide (wo = some p) := by
    cases wo with
    | none => rfl
    | some x =>
      show (PyData.int (p : Int)).eqv (.int (x : Int)) = _
      rw [eqv_ii, Bool.eq_iff_iff, decide_eq_true_eq, decide_eq_true_eq]
      constructor
      · intro z; congr 1; omega
      · intro z; cases z; rfl
  unfold b2_law_lengths
  walk_at "ev"
  simp only [mp_K, kI, look_mapN]
  cases q : lookN f p with
  | none =>
    simp only [Option.map_none, Option.isSome_none]
    walk_at "ev"
    exact K f _ (h.skip (.inl q) hps)
  | some v =>
    simp only [Option.map_some, Option.isSome_some]
    walk_at "ev"
    simp only [shw, eqw]
    by_cases c : wo = some p
    · rw [decide_eq_true c]
      walk_at "ev"
      exact K f _ (h.skip (.inr c) hps)
    · rw [decide_eq_false c]
      walk_at "ev"
      refine ⟨u, ns, p, e, rfl, asL_app hu, hL, by omega, fun l hl l2 => ?_⟩
      walk_at "ev"
      refine later_loop (f0 := f) hL hs q hps hep c l f _ (fun k hk => ?_) ⟨h.key, fun j _ => rfl, fun j w hj => ⟨w, hj, Nat.le_refl _⟩, h.closed⟩ (by omega) fun f' y6 h1 d1 g1 l1 => ?_
      · have := (hl.2 k).mp hk
        exact ⟨this.1, this.2.1, this.2.2⟩
      · refine K f' _ (LM.done hL hs h q hps hep h1 (fun k hk hek => d1 k ((hl.2 k).mpr ⟨hk, hek, ?_⟩)) (by omega))
        have := lk_le hL (show p < ns.length by omega)
        omega
theorem entry_loop {D : AEnds} {u : U} {u1 : Option U} {m0 : Sto} {ns : List Int} (hL : LogP ns) (hu : asL m0 u = some (ns.map .int)) {s e : Nat} {wo : Option Nat} (hs : s < ns.length)
    (K : ∀ f x5 x6, LS ns s e wo e f → D.nx [some u, u1, some (.v (.int (e : Int))), some (.v (woD wo)), some (.r m0.length), x5, x6] (m0 ++ [.dct (mapN f)])) : ∀ (n p : Nat) (f : List (Nat × Nat)) (x5 x6 : Option U), p = e + n → p ≤ s → LS ns s e wo p f →
    forU (fun _ => True) (gN 5) (b2_law_lengths sp_law_next) D (downU (p : Int) n) [some u, u1, some (.v (.int (e : Int))), some (.v (woD wo)), some (.r m0.length), x5, x6] (m0 ++ [.dct (mapN f)])
  | 0, p, f, x5, x6, hp, hps, h => ⟨trivial, K f _ _ ((show p = e by omega) ▸ h)⟩
  | n + 1, p, f, x5, x6, hp, hps, h => by
    have ed : downU (p : Int) (n + 1) = U.v (.int (p : Int)) :: downU ((p - 1 : Nat) : Int) n := by
      unfold downU
      rw [List.range_succ_eq_map, List.map_cons, List.map_map]
      have e1 : U.v (.int ((p : Int) - ((0 : Nat) : Int))) = U.v (.int (p : Int)) := by simp
      rw [e1]
      refine congrArg _ (List.map_congr_left fun i _ => ?_)
      show U.v (.int ((p : Int) - ((i + 1 : Nat) : Int))) = U.v (.int (((p - 1 : Nat) : Int) - (i : Int)))
      congr 2
      omega
    rw [ed]
    refine ⟨trivial, ?_⟩
    simp only [gN, List.set_cons_succ, List.set_cons_zero]
    refine entry_step hL hu hs hps (by omega) h _ fun f' y6 h' => ?_
    exact entry_loop hL hu hs K n (p - 1) f' _ _ (by omega) (by omega) h'
def sp_law_lengths : ASp := fun us m Q => ∃ (u : U) (ns : List Int) (s e : Nat) (wo : Option Nat), us = [u, .v (.int (s : Int)), .v (.int (e : Int)), .v (woD wo)] ∧ asL m u = some (ns.map .int) ∧ LogP ns ∧ s < ns.length ∧ e ≤ s ∧ ∀ f, LS ns s e wo e f → Q (.v (.dict (mapN f))) m
theorem sem_law_lengths (us : List U) (m : Sto) (Q : QA) (h : sp_law_lengths us m Q) : g_law_lengths sp_law_next (endsD m.length Q) (startU 7 us) m := by
  obtain ⟨u, ns, s, e, wo, rfl, hu, hL, hs, he, q⟩ := h
  have hz := hL.1.2.1
  unfold g_law_lengths
  walk_at "ev"
  simp only [kI]
  walk_at "ev"
  have e0 : m ++ [Cell.dct [(PyData.int (s : Int), PyData.int 0)]] = m ++ [.dct (mapN [(s, 0)])] := rfl
  rw [e0]
  refine ⟨by omega, ?_⟩
  rw [show ((s : Int) - (e : Int)).toNat = s - e by omega]
  refine entry_loop hL hu hs (fun f x5 x6 h => ?_) (s - e) s [(s, 0)] _ _ (by omega) (Nat.le_refl _) (LS.first he)
  walk_at "ev"
  simp only [mp_F]
  have et : ∀ a b : Cell, ((m ++ [a]).set m.length b).take m.length = m := fun a b => by simp
  rw [et]
  exact q f h
end Z.P
/-! ZB: what the laws of links share. -/
namespace Z.P
open PySem PySem.Spec PyProof.Rows L2 Z
local macro_rules | `(tactic| walk_at "ev") => `(tactic| try simp only [dSeq, dAsg, dVar, dC, dOp, dUn, dB, dChain, dAnd, dOr, dNot, dAndV, dOrV, dNotV, dIf, dNil, dCons, dLst, dLstM, dTup, dCB, dNext, dExpr, dRet, dRetN, dFrz, dIfS, dAsgG, dPar2, dPar3, dUnp, dMeth, dCall, dSl, dPart, dNoPart, dRev, dIsN, dNotN, dIsi, dSetIx, dLRg1, dLRg2, aSortedI, aExt2, dGet, dIn, dPut, dDctM0, dDctM1, dSortSet, dGet2, sRngD, dStep, dReprL, asDs, aExtend, aIndex, aCount, aCountB, dLRgD, dLRgZ, dTry, dTryO, rCall, xRaise, endX, dIsx, dIsxT, aCmpD, sRngS, aSortD, dLenSc, dSortSc, dAug, dFor, dWhile, dLc, dLcM, lcUM, dNever, dBreak, dCont, dYes, dPick,
  aAdd, aSub, aDiv, aMod, aPow, aI, aIc, aB, aMul, aNeg, aEq, aNe, aBB, aIn, aIx, aLen, aMax, aMin, aAbs, aSum, aAll, aAny, aList, aTuple, aInt, aSorted, aRepr, aAppend, aPop, aPopAt, aReverse, aClear, nw, allD, isNone, sList, sTup, sRng1, sRng2, sEnum, sZip, gN, gN0, gN1, gT, startU, endsD, retD, wipeE, setAll, 
  List.map_cons, List.map_nil, List.length_cons, List.length_nil, List.cons_append, List.nil_append, List.replicate, List.getElem?_cons_zero, List.getElem?_cons_succ, List.set_cons_zero, List.set_cons_succ, Nat.reduceAdd, Nat.reduceSub, Nat.reduceLeDiff, Nat.zero_add, Nat.add_zero, List.take_length, if_true, if_false, decide_true, decide_false, Bool.false_eq_true, Bool.not_true, Bool.not_false, Option.isSome_some, Option.map_some, Option.map_none, Option.bind_some, List.append_nil, true_and, and_true, asI_map, asB_map, shE_i, shE_b, shE_n, shE_s, shE_l, shE_t, asL_r, asD_r, asD_v, asL_v, asQ_v, asQ_s, asS_v, asS_t, asS_s, asQ_r, asS_r])
/-- a log as a new cell -/
def sp_law_log_4 : ASp := fun us m Q => ∃ (k T : Nat) (size : Int), us = [.r k, .v (.int size)] ∧ Vt k T m ∧ T < 100000000000 ∧ 1 ≤ size ∧ size ≤ 150 ∧
  ∀ (ns : List Int) (m' : Sto), LogP ns → (ns.length : Int) = size → m'.length = m.length → Fx k m.length m m' → Vt k (T + 2000) m' → Q (.r m.length) (m' ++ [.lst (ns.map .int)])
theorem sem_law_log_4 (us : List U) (m : Sto) (Q : QA) (h : sp_law_log_4 us m Q) : g_law_log_4 sp_law_drip (endsD m.length Q) (startU 9 us) m := by
  obtain ⟨k, T, size, rfl, hV, hT, h1, h2, q⟩ := h
  have hk := hV.lt
  unfold g_law_log_4
  walk_at "ev"
  refine ⟨by decide, by decide, k, T, 6, rfl, hV.app, by omega, ⟨by omega, .inl (by omega)⟩, fun way m1 w0 w6 gl gF hV1 => ?_⟩
  walk_at "ev"
  refine ⟨by omega, ?_⟩
  rw [show (1 : Int) = ((1 : Nat) : Int) from rfl, rngU_nat]
  have hfx : Fx k m.length m m1 := ((Fx.refl (Nat.le_refl _)).app (l := [.lst [.int 0]])).trans (gF.less (by simp))
  have hl1 : m1.length = m.length + 1 := by rw [gl]; simp
  refine log_loop (f := m.length) (m0 := m) rfl way w0 w6 (size - 1).toNat 1 [0] [0] (T + 1) m1 _ _ _ _ rfl (by omega) logP_one alOk_one ?_ hV1 (by omega) hfx hk ?_
  · rw [gF.2.2 m.length (by simp) (by omega), List.getElem?_append_right (Nat.le_refl _)]
    simp
  · intro ns' m' al' x5 x6 x7 x8 hL hlen hm' hV' hF'
    walk_at "ev"
    rw [if_neg (by omega)]
    simp only [hm']
    refine q ns' _ hL (by omega) ?_ ?_ ?_
    · rw [List.length_take]
      have := hF'.2.1
      omega
    · exact hF'.take
    · exact (hV'.mono (by omega)).take hk
/-- crossings sought from entry 1 on -/
def firstX1 (ns : List Int) : Option (Nat × Nat) := (List.range' 1 (ns.length - 1)).findSome? fun i => ((List.range' (i + 1) (ns.length - (i + 1))).find? fun j => xAt ns i j).map fun j => (i, j)
theorem firstX1_eq {ns : List Int} (h : ∀ j : Nat, j < ns.length → 0 ≤ ns.getD j 0) : firstX1 ns = firstX ns := by
  unfold firstX1 firstX
  cases e : ns.length with
  | zero => rfl
  | succ n =>
    rw [List.range_eq_range', List.range'_succ, List.findSome?_cons]
    have e0 : ((List.range' (0 + 1) (n + 1 - (0 + 1))).find? fun j => xAt ns 0 j) = none := by
      rw [List.find?_eq_none]
      intro j hj hx
      have h1 := List.mem_range'_1.mp hj
      have h2 := (xAt_iff ns 0 j).mp hx
      have := h j (by omega)
      omega
    rw [e0, Option.map_none]
    rfl
def sp_law_crossing : ASp := fun us m Q => ∃ u ns, us = [u] ∧ asL m u = some (ns.map .int) ∧ ns.length ≤ 1000000 ∧ Q (.v (Z.P.pairD (firstX1 ns))) m
theorem lx_inner {u : U} {m : Sto} {ns : List Int} (hu : asL m u = some (ns.map .int)) (D : AEnds) (i : Nat) (hi : i < ns.length) : ∀ (js : List Nat) (x : Option U), (∀ j ∈ js, j < ns.length) →
    (match js.find? fun j => xAt ns i j with
      | some j => D.rt (.v (.tuple [.int i, .int j])) m
      | none => ∀ y, D.nx [some u, some (.v (.int i)), y] m) →
    forU (fun _ => True) (gN 2) b1_law_crossing D (js.map fun (j : Nat) => U.v (.int (j : Int))) [some u, some (.v (.int i)), x] m
  | [], x, _, h => ⟨trivial, h x⟩
  | j :: js, x, hj, h => by
    refine ⟨trivial, ?_⟩
    have h1 := hj j List.mem_cons_self
    unfold b1_law_crossing
    walk_at "ev"
    simp only [asS_of hu, atI_ints h1, atI_ints hi]
    rw [List.find?_cons] at h
    by_cases c1 : ns.getD i 0 < ns.getD j 0
    · by_cases c2 : ns.getD j 0 < (i : Int)
      · have c : xAt ns i j = true := by unfold xAt; rw [decide_eq_true c1, decide_eq_true c2]; rfl
        simp only [c] at h
        simp only [c1, c2, decide_true, if_true]
        walk_at "ev"
        refine ⟨by rw [sizeLine_eq]; omega, h⟩
      · have c : xAt ns i j = false := by unfold xAt; rw [decide_eq_false c2, Bool.and_false]
        simp only [c] at h
        simp only [c1, c2, decide_true, decide_false, if_true, Bool.false_eq_true, if_false]
        exact lx_inner hu D i hi js _ (fun k hk => hj k (List.mem_cons_of_mem _ hk)) h
    · have c : xAt ns i j = false := by unfold xAt; rw [decide_eq_false c1, Bool.false_and]
      simp only [c] at h
      simp only [c1, decide_false, Bool.false_eq_true, if_false]
      exact lx_inner hu D i hi js _ (fun k hk => hj k (List.mem_cons_of_mem _ hk)) h
theorem lx_outer {u : U} {m : Sto} {ns : List Int} (hu : asL m u = some (ns.map .int)) (hz : ns.length ≤ 1000000) (D : AEnds) : ∀ (is : List Nat) (x y : Option U), (∀ j ∈ is, j < ns.length) →
    (match is.findSome? fun i => ((List.range' (i + 1) (ns.length - (i + 1))).find? fun j => xAt ns i j).map fun j => (i, j) with
      | some p => D.rt (.v (.tuple [.int p.1, .int p.2])) m
      | none => ∀ x y, D.nx [some u, x, y] m) →
    forU (fun _ => True) (gN 1) b2_law_crossing D (is.map fun (i : Nat) => U.v (.int (i : Int))) [some u, x, y] m
  | [], x, y, _, h => ⟨trivial, h x y⟩
  | i :: is, x, y, hj, h => by
    refine ⟨trivial, ?_⟩
    have h1 := hj i List.mem_cons_self
    unfold b2_law_crossing
    walk_at "ev"
    simp only [asS_of hu, List.length_map]
    refine ⟨by omega, ?_⟩
    rw [show ((i : Int) + 1) = ((i + 1 : Nat) : Int) by omega, rngU_nat, show ((ns.length : Int) - ((i + 1 : Nat) : Int)).toNat = ns.length - (i + 1) by omega]
    refine lx_inner hu _ i h1 _ _ (fun j hj => ?_) ?_
    · have := List.mem_range'.mp hj
      omega
    · rw [List.findSome?_cons] at h
      cases q : (List.range' (i + 1) (ns.length - (i + 1))).find? fun j => xAt ns i j with
      | some j =>
        simp only [q, Option.map_some] at h ⊢
        exact h
      | none =>
        simp only [q, Option.map_none] at h ⊢
        exact fun y' => lx_outer hu hz D is _ _ (fun k hk => hj k (List.mem_cons_of_mem _ hk)) h
theorem sem_law_crossing (us : List U) (m : Sto) (Q : QA) (h : sp_law_crossing us m Q) : g_law_crossing (endsD m.length Q) (startU 3 us) m := by
  obtain ⟨u, ns, rfl, hu, hz, q⟩ := h
  unfold g_law_crossing
  walk_at "ev"
  simp only [asS_of hu, List.length_map]
  refine ⟨by omega, ?_⟩
  rw [show rngU 1 ((ns.length : Int) - 1).toNat = _ from rngU_nat 1 _, show ((ns.length : Int) - 1).toNat = ns.length - 1 by omega]
  refine lx_outer hu hz _ _ _ _ (fun j hj => by have := List.mem_range'_1.mp hj; omega) ?_
  unfold firstX1 at q
  split
  · rename_i p hp
    rw [hp] at q
    walk_at "ev"
    exact q
  · rename_i hp
    rw [hp] at q
    intro x y
    walk_at "ev"
    exact q
/-- [drip(vat, entry) for entry in range(a, a + n)] -/
theorem lc_drips {E : En} {s v V : Nat} (hv : E[v]? = some (some (.r V))) (hs : s < E.length) (hsv : s ≠ v) {Q : QA} : ∀ (n a : Nat) (acc : List Int) (T : Nat) (m : Sto), 1 ≤ a → a + n ≤ 1000 → acc.length + n ≤ 100000 → Vt V T m → T + n < 1000000000000 →
    (∀ (ds : List Int) (m' : Sto), ds.length = n → (∀ i : Nat, i < n → 0 ≤ ds.getD i 0 ∧ ds.getD i 0 < (a : Int) + i) → m'.length = m.length → Fx V m.length m m' → Vt V (T + n) m' → Q (.v (.list ((acc ++ ds).map .int))) m') →
    lcU (fun _ => True) (gN s) dYes (dCall sp_law_drip (dCons (dVar v) (dCons (dVar s) dNil))) E Q ((List.range' a n).map fun (j : Nat) => U.v (.int (j : Int))) (acc.map .int) m
  | 0, a, acc, T, m, _, _, _, hV, _, q => ⟨trivial, by have := q [] m rfl (by simp) rfl (Fx.refl (Nat.le_refl _)) hV; simpa using this⟩
  | n + 1, a, acc, T, m, h1, h2, h3, hV, hT, q => by
    rw [List.range'_succ, List.map_cons]
    refine ⟨trivial, ?_⟩
    have e1 : (E.set s (some (.v (.int (a : Int)))))[v]? = some (some (.r V)) := by rw [List.getElem?_set_ne hsv]; exact hv
    have e2 : (E.set s (some (.v (.int (a : Int)))))[s]? = some (some (.v (.int (a : Int)))) := List.getElem?_set_self hs
    simp only [gN, dYes, if_true, dCall, dCons, dVar, dNil, e1, e2]
    refine ⟨V, T, a, rfl, hV, by omega, ⟨by omega, .inl (by omega)⟩, fun r m1 g1 g2 gl gF hV1 => ⟨by rw [List.length_map, sizeLine_eq]; omega, ?_⟩⟩
    have e3 : acc.map PyData.int ++ [PyData.int r] = (acc ++ [r]).map .int := by simp
    rw [e3]
    refine lc_drips hv hs hsv n (a + 1) (acc ++ [r]) (T + 1) m1 (by omega) (by omega) (by simp; omega) hV1 (by omega) fun ds m2 d1 d2 dl dF dV => ?_
    have := q (r :: ds) m2 (by simp [d1]) (fun i hi => ?_) (by omega) (gF.trans (by rw [← gl]; exact dF)) (dV.mono (by omega))
    · rw [List.append_assoc]; exact this
    · cases i with
      | zero => simp only [List.getD_cons_zero]; omega
      | succ i =>
        rw [List.getD_cons_succ]
        have := d2 i (by omega)
        omega
/-- 0 and draws below their entries -/
theorem form_draws {ds : List Int} (hl : ds.length < 150) (h : ∀ i : Nat, i < ds.length → 0 ≤ ds.getD i 0 ∧ ds.getD i 0 < (1 : Int) + i) : FormP (0 :: ds) := by
  refine ⟨by simp, by simp; omega, fun i hi => ?_⟩
  cases i with
  | zero => exact ⟨by simp, by simp; omega⟩
  | succ i =>
    rw [List.getD_cons_succ]
    simp at hi
    have := h i hi
    omega
theorem form_set {ns : List Int} {i : Nat} {t : Int} (h : FormP ns) (h0 : 0 ≤ t) (h1 : t ≤ max 0 ((i : Int) - 1)) : FormP (ns.set i t) := by
  obtain ⟨f1, f2, f3⟩ := h
  refine ⟨by rw [List.length_set]; exact f1, by rw [List.length_set]; exact f2, fun j hj => ?_⟩
  rw [List.length_set] at hj
  simp only [List.getD_eq_getElem?_getD]
  by_cases e : i = j
  · subst e
    rw [List.getElem?_set_self hj]
    exact ⟨h0, h1⟩
  · rw [List.getElem?_set_ne e]
    have := f3 j hj
    simpa [List.getD_eq_getElem?_getD] using this
theorem form_mem {ns : List Int} (h : FormP ns) {i : Int} (hi : i ∈ ns) : 0 ≤ i ∧ i ≤ 150 := by
  obtain ⟨j, hj, rfl⟩ := List.getElem_of_mem hi
  have := h.2.2 j hj
  rw [List.getD_eq_getElem?_getD, List.getElem?_eq_getElem hj] at this
  have := h.2.1
  simp at *
  omega
theorem form_nonneg {ns : List Int} (h : FormP ns) (j : Nat) (hj : j < ns.length) : 0 ≤ ns.getD j 0 := (h.2.2 j hj).1
theorem form_repr {ns : List Int} (h : FormP ns) : Shw 8 1 2000 (.list (ns.map .int)) := by
  have e : (10 : Nat) ^ 3 = 1000 := by decide
  exact (Shw.ints (B := 8) 3 150 (by decide) (by decide) (by decide) h.2.1 fun i hi => by
    have := form_mem h hi
    omega).mono (Nat.le_refl _) (by omega)
theorem pair_repr {o : Option (Nat × Nat)} (h : ∀ p, o = some p → p.1 < 1000 ∧ p.2 < 1000) : Shw 8 1 26 (Z.P.pairD o) := by
  cases o with
  | none => exact Shw.none.mono (by omega) (by omega)
  | some p =>
    obtain ⟨h1, h2⟩ := h p rfl
    have e : (10 : Nat) ^ 3 = 1000 := by decide
    refine Shw.tuple (k := 0) (n := 12) (L := 2) (fun d hd => ?_) (by simp)
    simp only [List.mem_cons, List.not_mem_nil, or_false] at hd
    rcases hd with rfl | rfl <;> exact Shw.int 3 (by decide) (by decide) (by decide) (by omega)
end Z.P
/-! ZE: is_log of any data. -/
namespace Z.P
open PySem PySem.Spec PyProof.Rows L2 Z
theorem k_NoneType_int : isK "NoneType" "int" = false := by decide
theorem k_NoneType_bool : isK "NoneType" "bool" = false := by decide
theorem k_NoneType_list : isK "NoneType" "list" = false := by decide
theorem k_bool_int : isK "bool" "int" = true := by decide
theorem k_bool_bool : isK "bool" "bool" = true := by decide
theorem k_bool_list : isK "bool" "list" = false := by decide
theorem k_int_int : isK "int" "int" = true := by decide
theorem k_int_bool : isK "int" "bool" = false := by decide
theorem k_int_list : isK "int" "list" = false := by decide
theorem k_str_int : isK "str" "int" = false := by decide
theorem k_str_bool : isK "str" "bool" = false := by decide
theorem k_str_list : isK "str" "list" = false := by decide
theorem k_list_int : isK "list" "int" = false := by decide
theorem k_list_bool : isK "list" "bool" = false := by decide
theorem k_list_list : isK "list" "list" = true := by decide
theorem k_tuple_int : isK "tuple" "int" = false := by decide
theorem k_tuple_bool : isK "tuple" "bool" = false := by decide
theorem k_tuple_list : isK "tuple" "list" = false := by decide
theorem k_dict_int : isK "dict" "int" = false := by decide
theorem k_dict_bool : isK "dict" "bool" = false := by decide
theorem k_dict_list : isK "dict" "list" = false := by decide
local macro_rules | `(tactic| walk_at "ev") => `(tactic| try simp only [dSeq, dAsg, dVar, dC, dOp, dUn, dB, dChain, dAnd, dOr, dNot, dAndV, dOrV, dNotV, dIf, dNil, dCons, dLst, dLstM, dTup, dCB, dNext, dExpr, dRet, dRetN, dFrz, dIfS, dAsgG, dPar2, dPar3, dUnp, dMeth, dCall, dSl, dPart, dNoPart, dRev, dIsN, dNotN, dIsi, dSetIx, dLRg1, dLRg2, aSortedI, aExt2, dGet, dIn, dPut, dDctM0, dDctM1, dSortSet, dGet2, sRngD, dStep, dReprL, asDs, aExtend, aIndex, aCount, aCountB, dLRgD, dLRgZ, dTry, dTryO, rCall, xRaise, endX, dIsx, dIsxT, aCmpD, sRngS, aSortD, dLenSc, dSortSc, dAug, dFor, dWhile, dLc, dLcM, lcUM, dNever, dBreak, dCont, dYes, dPick,
  aAdd, aSub, aDiv, aMod, aPow, aI, aIc, aB, aMul, aNeg, aEq, aNe, aBB, aIn, aIx, aLen, aMax, aMin, aAbs, aSum, aAll, aAny, aList, aTuple, aInt, aSorted, aRepr, aAppend, aPop, aPopAt, aReverse, aClear, nw, allD, isNone, sList, sTup, sRng1, sRng2, sEnum, sZip, gN, gN0, gN1, gT, startU, endsD, retD, wipeE, setAll, 
  List.map_cons, List.map_nil, List.length_cons, List.length_nil, List.cons_append, List.nil_append, List.replicate, List.getElem?_cons_zero, List.getElem?_cons_succ, List.set_cons_zero, List.set_cons_succ, Nat.reduceAdd, Nat.reduceSub, Nat.reduceLeDiff, Nat.zero_add, Nat.add_zero, List.take_length, if_true, if_false, decide_true, decide_false, Bool.false_eq_true, Bool.not_true, Bool.not_false, Option.isSome_some, Option.map_some, Option.map_none, Option.bind_some, List.append_nil, true_and, and_true, asI_map, asB_map, shE_i, shE_b, shE_n, shE_s, shE_l, shE_t, asL_r, asD_r, asD_v, asL_v, asQ_v, asQ_s, asS_v, asS_t, asS_s, asQ_r, asS_r])
def logD : PyData → Bool
  | .list l => formL l && (match intsOf l with
    | some ns => (firstX ns).isNone
    | none => false)
  | _ => false
theorem isInt_int {d : PyData} {lo hi : Int} (h : isInt d lo hi = true) : ∃ i, d = .int i := by
  cases d <;> first | exact ⟨_, rfl⟩ | cases h
theorem all_ints : ∀ {l : List PyData}, (∀ d ∈ l, ∃ i, d = PyData.int i) → ∃ ns : List Int, l = ns.map .int
  | [], _ => ⟨[], rfl⟩
  | d :: l, h => by
    obtain ⟨i, rfl⟩ := h d List.mem_cons_self
    obtain ⟨ns, rfl⟩ := all_ints fun e he => h e (List.mem_cons_of_mem _ he)
    exact ⟨i :: ns, rfl⟩
theorem formL_ints {l : List PyData} (h : formL l = true) : ∃ ns : List Int, l = ns.map .int ∧ FormP ns := by
  have : ∃ ns : List Int, l = ns.map .int := by
    unfold formL at h
    simp only [Bool.and_eq_true, List.all_eq_true] at h
    refine all_ints fun d hd => ?_
    obtain ⟨i, hi, e⟩ := List.getElem_of_mem hd
    have := h.2 (d, i) (by rw [List.mem_zipIdx_iff_getElem?, List.getElem?_eq_getElem hi, e])
    exact isInt_int this
  obtain ⟨ns, rfl⟩ := this
  exact ⟨ns, rfl, (formL_iff ns).mp h⟩
theorem logD_ints (ns : List Int) : logD (.list (ns.map .int)) = logI ns := by
  show (formL _ && (match intsOf (ns.map PyData.int) with
    | some ns => (firstX ns).isNone
    | none => false)) = _
  rw [intsOf_map]
  rfl
def sp_is_logD : ASp := fun us m Q => ∃ u d, us = [u] ∧ asD m u = some d ∧ Q (.v (.bool (logD d))) m
theorem sem_is_logD (us : List U) (m : Sto) (Q : QA) (h : sp_is_logD us m Q) : g_is_log sp_have_form sp_least_crossing (endsD m.length Q) (startU 1 us) m := by
  obtain ⟨u, d, rfl, hd, q⟩ := h
  unfold g_is_log
  walk_at "ev"
  refine ⟨u, d, rfl, hd, ?_⟩
  by_cases c : formD d = true
  · simp only [c]
    walk_at "ev"
    cases d with
    | list l =>
      obtain ⟨ns, rfl, hf⟩ := formL_ints c
      rw [logD_ints] at q
      refine ⟨u, ns, rfl, asL_of_D hd, by have := hf.2.1; omega, ?_⟩
      walk_at "ev"
      have e1 : logI ns = isNone (.v (Z.P.pairD (firstX ns))) := by
        unfold logI
        rw [(formL_iff ns).mpr hf]
        cases firstX ns <;> rfl
      rw [e1] at q
      exact q
    | _ => simp [formD] at c
  · have c' : formD d = false := by simpa using c
    simp only [c']
    walk_at "ev"
    have : logD d = false := by
      cases d with
      | list l => simp only [formD] at c'; show (formL l && _) = false; rw [c']; rfl
      | _ => rfl
    rw [this] at q
    exact q
end Z.P
/-! ZF: chains; what the laws of chains share. -/
namespace Z.P
open PySem PySem.Spec PyProof.Rows L2 Z
local macro_rules | `(tactic| walk_at "ev") => `(tactic| try simp only [dSeq, dAsg, dVar, dC, dOp, dUn, dB, dChain, dAnd, dOr, dNot, dAndV, dOrV, dNotV, dIf, dNil, dCons, dLst, dLstM, dTup, dCB, dNext, dExpr, dRet, dRetN, dFrz, dIfS, dAsgG, dPar2, dPar3, dUnp, dMeth, dCall, dSl, dPart, dNoPart, dRev, dIsN, dNotN, dIsi, dSetIx, dLRg1, dLRg2, aSortedI, aExt2, dGet, dIn, dPut, dDctM0, dDctM1, dSortSet, dGet2, sRngD, dStep, dReprL, asDs, aExtend, aIndex, aCount, aCountB, dLRgD, dLRgZ, dTry, dTryO, rCall, xRaise, endX, dIsx, dIsxT, aCmpD, sRngS, aSortD, dLenSc, dSortSc, dAug, dFor, dWhile, dLc, dLcM, lcUM, dNever, dBreak, dCont, dYes, dPick,
  aAdd, aSub, aDiv, aMod, aPow, aI, aIc, aB, aMul, aNeg, aEq, aNe, aBB, aIn, aIx, aLen, aMax, aMin, aAbs, aSum, aAll, aAny, aList, aTuple, aInt, aSorted, aRepr, aAppend, aPop, aPopAt, aReverse, aClear, nw, allD, isNone, sList, sTup, sRng1, sRng2, sEnum, sZip, gN, gN0, gN1, gT, startU, endsD, retD, wipeE, setAll, 
  List.map_cons, List.map_nil, List.length_cons, List.length_nil, List.cons_append, List.nil_append, List.replicate, List.getElem?_cons_zero, List.getElem?_cons_succ, List.set_cons_zero, List.set_cons_succ, Nat.reduceAdd, Nat.reduceSub, Nat.reduceLeDiff, Nat.zero_add, Nat.add_zero, List.take_length, if_true, if_false, decide_true, decide_false, Bool.false_eq_true, Bool.not_true, Bool.not_false, Option.isSome_some, Option.map_some, Option.map_none, Option.bind_some, List.append_nil, true_and, and_true, asI_map, asB_map, shE_i, shE_b, shE_n, shE_s, shE_l, shE_t, asL_r, asD_r, asD_v, asL_v, asQ_v, asQ_s, asS_v, asS_t, asS_s, asQ_r, asS_r])
/-! ### ranges and chains that are drawn -/
def sp_law_range : ASp := fun us m Q => ∃ k T size : Nat, us = [.r k, .v (.int size)] ∧ 1 ≤ size ∧ size ≤ 150 ∧ Vt k T m ∧ T < 1000000000 ∧
  ∀ (start stop : Nat) (m' : Sto), stop ≤ start → start < size → m'.length = m.length → Fx k m.length m m' → Vt k (T + 4) m' → Q (.v (.tuple [.int start, .int stop])) m'
theorem sem_law_range (us : List U) (m : Sto) (Q : QA) (h : sp_law_range us m Q) : g_law_range sp_law_drip (endsD m.length Q) (startU 3 us) m := by
  obtain ⟨k, T, size, rfl, h1, h2, hV, hT, q⟩ := h
  unfold g_law_range
  walk_at "ev"
  refine ⟨k, T, _, rfl, hV, by omega, ⟨by omega, .inl (by omega)⟩, fun r1 m1 g1 g2 gl gF hV1 => ?_⟩
  walk_at "ev"
  refine ⟨by decide, k, T + 1, _, rfl, hV1, by omega, ⟨by decide, .inl (by decide)⟩, fun r2 m2 g3 g4 gl2 gF2 hV2 => ?_⟩
  obtain ⟨s, c1, _, c3⟩ := atI_exI (l := [(size : Int) - 1, r1]) g3 (by simpa using g4)
  have c1' : atI [PyData.int ((size : Int) - 1), PyData.int r1] r2 = some (.int s) := c1
  simp only [c1']
  walk_at "ev"
  have hs : 0 ≤ s ∧ s < size := by
    simp only [List.mem_cons, List.not_mem_nil, or_false] at c3
    rcases c3 with e | e <;> rw [e] <;> omega
  refine ⟨k, T + 2, _, rfl, hV2, by omega, ⟨by omega, .inl (by omega)⟩, fun r3 m3 g5 g6 gl3 gF3 hV3 => ?_⟩
  walk_at "ev"
  refine ⟨by decide, k, T + 3, _, rfl, hV3, by omega, ⟨by decide, .inl (by decide)⟩, fun r4 m4 g7 g8 gl4 gF4 hV4 => ?_⟩
  obtain ⟨s2, d1, _, d3⟩ := atI_exI (l := [0, r3, if s - 1 > 0 then s - 1 else 0]) g7 (by simpa using g8)
  have d1' : atI [PyData.int 0, PyData.int r3, PyData.int (if s - 1 > 0 then s - 1 else 0)] r4 = some (.int s2) := d1
  walk_at "ev"
  simp only [d1']
  walk_at "ev"
  have hs2 : 0 ≤ s2 ∧ s2 ≤ s := by
    simp only [List.mem_cons, List.not_mem_nil, or_false] at d3
    rcases d3 with e | e | e <;> rw [e] <;> (try split) <;> omega
  have := q s.toNat s2.toNat (m4.take m.length) (by omega) (by omega) (by rw [List.length_take]; omega) (((gF.trans (gF2.less (by omega))).trans ((gF3.less (by omega)).trans (gF4.less (by omega)))).take) ((hV4.mono (by omega)).take hV.lt)
  rw [Int.toNat_of_nonneg hs.1, Int.toNat_of_nonneg hs2.1] at this
  exact ⟨by decide, this⟩
/-- one step of a chain -/
def stepB (ns : List Int) (x y : Int) : Bool := decide (y < x) && (decide (y = x - 1) || decide (y = ns.getD x.toNat 0))
def stepsB (ns : List Int) : List Int → Bool
  | x :: y :: r => stepB ns x y && stepsB ns (y :: r)
  | _ => true
theorem stepsB_snoc (ns : List Int) (x y : Int) : ∀ l : List Int, stepsB ns (l ++ [x]) = true → stepB ns x y = true → stepsB ns (l ++ [x] ++ [y]) = true
  | [], _, h => by simp [stepsB, h]
  | [a], h1, h => by
    simp only [List.singleton_append, stepsB, Bool.and_true] at h1
    simp [stepsB, h, h1]
  | a :: b :: l, h1, h => by
    simp only [List.cons_append, stepsB, Bool.and_eq_true] at h1 ⊢
    exact ⟨h1.1, stepsB_snoc ns x y (b :: l) h1.2 h⟩
def sp_law_down : ASp := fun us m Q => ∃ (k T start stop : Nat) (ns : List Int), us = [.r k, .v (.list (ns.map .int)), .v (.int start), .v (.int stop)] ∧ FormP ns ∧ stop ≤ start ∧ start < ns.length ∧ Vt k T m ∧ T < 1000000000 ∧
  ∀ (ch : List Int) (m' : Sto), (∃ r, ch = (start : Int) :: r) → (∃ l, ch = l ++ [(stop : Int)]) → stepsB ns ch = true → (∀ x ∈ ch, (stop : Int) ≤ x ∧ x ≤ start) → ch.length ≤ start + 1 → m'.length = m.length → Fx k m.length m m' → Vt k (T + 1000) m' → Q (.v (.list (ch.map .int))) m'
theorem dn_loop {D : AEnds} {k f : Nat} {ns : List Int} {m0 : Sto} {e2 : Option U} {stop : Nat} {start : Int} (hf : f = m0.length) (hk : k < m0.length) (hN : FormP ns) (way : Int) (hw0 : 0 ≤ way) (hw3 : way < 3) : ∀ (N x : Nat) (l : List Int) (T : Nat) (m : Sto) (x6 x7 : Option U),
    x ≤ stop + N → stop ≤ x → x < ns.length → (x : Int) ≤ start → (∃ r, l ++ [(x : Int)] = start :: r) → stepsB ns (l ++ [(x : Int)]) = true → (∀ y ∈ l, (stop : Int) ≤ y ∧ y ≤ start) → l.length + x ≤ start.toNat → start ≤ 150 → m[f]? = some (.lst ((l ++ [(x : Int)]).map .int)) → Vt k T m → T + 6 * N < 1000000000000 → Fx k m0.length m0 m →
    (∀ (ch : List Int) (m' : Sto) (x6 x7 : Option U), (∃ r, ch = start :: r) → (∃ l, ch = l ++ [(stop : Int)]) → stepsB ns ch = true → (∀ x ∈ ch, (stop : Int) ≤ x ∧ x ≤ start) → ch.length ≤ start.toNat + 1 → m'[f]? = some (.lst (ch.map .int)) → Vt k (T + 6 * N) m' → Fx k m0.length m0 m' →
      D.nx [some (.r k), some (.v (.list (ns.map .int))), e2, some (.v (.int stop)), some (.r f), some (.v (.int way)), x6, x7] m') →
    whN (t1_law_down sp_law_drip) (b1_law_down sp_law_drip) D (N + 1) [some (.r k), some (.v (.list (ns.map .int))), e2, some (.v (.int stop)), some (.r f), some (.v (.int way)), x6, x7] m := by
  intro N
  induction N with
  | zero =>
    intro x l T m x6 x7 h1 h2 h3 h4 h5 h6 h7 h8 h9 hm hV hT hF q
    have e : x = stop := by omega
    subst e
    unfold whN t1_law_down
    walk_at "ev"
    have ea : atI ((l ++ [(x : Int)]).map PyData.int) (-1) = some (.int x) := by rw [List.map_append]; exact atI_last
    simp only [hm, ea]
    walk_at "ev"
    simp only [Int.lt_irrefl, decide_false]
    walk_at "ev"
    refine q _ m _ _ h5 ⟨l, rfl⟩ h6 (fun y hy => ?_) (by simp; omega) hm hV hF
    rcases List.mem_append.mp hy with hy | hy
    · exact h7 y hy
    · have : y = (x : Int) := by simpa using hy
      omega
  | succ N ih =>
    intro x l T m x6 x7 h1 h2 h3 h4 h5 h6 h7 h8 h9 hm hV hT hF q
    unfold whN t1_law_down
    walk_at "ev"
    have ea : atI ((l ++ [(x : Int)]).map PyData.int) (-1) = some (.int x) := by rw [List.map_append]; exact atI_last
    simp only [hm, ea]
    walk_at "ev"
    by_cases c : (stop : Int) < (x : Int)
    · simp only [c, decide_true, if_true]
      unfold b1_law_down
      walk_at "ev"
      have hfl : f < m.length := (List.getElem?_eq_some_iff.mp hm).1
      simp only [hm, ea, atI_ints h3]
      walk_at "ev"
      refine ⟨k, T, _, rfl, hV, by omega, ⟨by decide, .inl (by decide)⟩, fun r1 m1 g1 g2 gl gF hV1 => ?_⟩
      walk_at "ev"
      refine ⟨k, T + 1, _, rfl, hV1, by omega, ⟨by decide, .inl (by decide)⟩, fun r2 m2 g3 g4 gl2 gF2 hV2 => ?_⟩
      walk_at "ev"
      refine ⟨⟨by decide, .inl (by decide)⟩, k, T + 2, _, rfl, hV2, by omega, ⟨by decide, .inl (by decide)⟩, fun r3 m3 g5 g6 gl3 gF3 hV3 => ?_⟩
      walk_at "ev"
      obtain ⟨w, c1, _, _⟩ := atI_exI (l := [r1, r2 / 5, if decide (0 < r3) = true then 1 else 0]) hw0 (by simpa using hw3)
      have c1' : atI [PyData.int r1, PyData.int (r2 / 5), PyData.int (if decide (0 < r3) = true then 1 else 0)] way = some (.int w) := c1
      have e3 : m3[f]? = some (.lst ((l ++ [(x : Int)]).map .int)) := by
        rw [gF3.2.2 f (by omega) (by omega), gF2.2.2 f (by omega) (by omega), gF.2.2 f (by omega) (by omega)]
        exact hm
      have f3 : Fx k m0.length m0 m3 := ((hF.trans (gF.less hF.2.1)).trans ((gF2.less (by have := hF.2.1; omega)).trans (gF3.less (by have := hF.2.1; omega))))
      simp only [c1']
      walk_at "ev"
      simp only [e3, ea, eqv_ii]
      walk_at "ev"
      have hll : (l ++ [(x : Int)]).length ≤ 200 := by simp; omega
      have hfx := hN.2.2 x h3
      have go : ∀ y : Nat, stop ≤ y → y < x → stepB ns x (y : Int) = true → whN (t1_law_down sp_law_drip) (b1_law_down sp_law_drip) D (N + 1) [some (.r k), some (.v (.list (ns.map .int))), e2, some (.v (.int stop)), some (.r f), some (.v (.int way)), some (.v (.int (ns.getD x 0))), some (.v (.int w))] (m3.set f (.lst ((l ++ [(x : Int)]).map PyData.int ++ [PyData.int (y : Int)]))) := by
        intro y y1 y2 y3
        refine ih y (l ++ [(x : Int)]) (T + 3) _ _ _ (by omega) y1 (by omega) (by omega) ?_ (stepsB_snoc ns x y l h6 y3) (fun z hz => ?_) (by simp; omega) h9 ?_ (hV3.set (by omega)) (by omega) (f3.set (by omega)) ?_
        · obtain ⟨r, hr⟩ := h5
          exact ⟨r ++ [(y : Int)], by rw [hr]; rfl⟩
        · rcases List.mem_append.mp hz with hz | hz
          · exact h7 z hz
          · have : z = (x : Int) := by simpa using hz
            omega
        · rw [List.map_append (l₁ := l ++ [(x : Int)])]
          exact List.getElem?_set_self (by omega)
        · intro ch m' z6 z7 a1 a2 a3 a4 a5 a6 a7 a8
          exact q ch m' z6 z7 a1 a2 a3 a4 a5 a6 (a7.mono (by omega)) a8
      have sz : (List.map PyData.int (l ++ [(x : Int)])).length < sizeLine := by rw [List.length_map, sizeLine_eq]; omega
      have goM : (List.map PyData.int (l ++ [(x : Int)])).length < sizeLine ∧ whN (t1_law_down sp_law_drip) (b1_law_down sp_law_drip) D (N + 1) [some (.r k), some (.v (.list (ns.map .int))), e2, some (.v (.int stop)), some (.r f), some (.v (.int way)), some (.v (.int (ns.getD x 0))), some (.v (.int w))] (m3.set f (.lst ((l ++ [(x : Int)]).map PyData.int ++ [PyData.int ((x : Int) - 1)]))) := by
        have := go (x - 1) (by omega) (by omega) (by
          unfold stepB
          rw [decide_eq_true (show ((x - 1 : Nat) : Int) < (x : Int) by omega), decide_eq_true (show ((x - 1 : Nat) : Int) = (x : Int) - 1 by omega)]
          rfl)
        rw [show ((x - 1 : Nat) : Int) = (x : Int) - 1 by omega] at this
        exact ⟨sz, this⟩
      refine ⟨by decide, ?_⟩
      by_cases c2 : w = 1
      · by_cases c3 : (stop : Int) ≤ ns.getD x 0
        · simp only [c2, c3, decide_true, if_true] at go ⊢
          have := go (ns.getD x 0).toNat (by omega) (by omega) (by
            unfold stepB
            rw [decide_eq_true (show ((ns.getD x 0).toNat : Int) < (x : Int) by omega), decide_eq_true (show ((ns.getD x 0).toNat : Int) = ns.getD (x : Int).toNat 0 by rw [Int.toNat_natCast]; omega), Bool.or_true]
            rfl)
          rw [Int.toNat_of_nonneg (by omega)] at this
          exact ⟨sz, this⟩
        · simp only [c2, c3, decide_true, decide_false, Bool.false_eq_true, if_true, if_false] at goM ⊢
          exact goM
      · simp only [c2, decide_false, Bool.false_eq_true, if_false]
        exact goM
    · have e : x = stop := by omega
      subst e
      simp only [c, decide_false]
      walk_at "ev"
      refine q _ m _ _ h5 ⟨l, rfl⟩ h6 (fun y hy => ?_) (by simp; omega) hm (hV.mono (by omega)) hF
      rcases List.mem_append.mp hy with hy | hy
      · exact h7 y hy
      · have : y = (x : Int) := by simpa using hy
        omega
theorem sem_law_down (us : List U) (m : Sto) (Q : QA) (h : sp_law_down us m Q) : g_law_down sp_law_drip (endsD m.length Q) (startU 8 us) m := by
  obtain ⟨k, T, start, stop, ns, rfl, hN, h1, h2, hV, hT, q⟩ := h
  have hk := hV.lt
  have hN2 := hN.2.1
  unfold g_law_down
  walk_at "ev"
  refine ⟨by decide, k, T, _, rfl, hV.app, by omega, ⟨by decide, .inl (by decide)⟩, fun way m1 w0 w3 gl gF hV1 => ?_⟩
  walk_at "ev"
  have hfx : Fx k m.length m m1 := ((Fx.refl (Nat.le_refl _)).app (l := [.lst [.int start]])).trans (gF.less (by simp))
  refine ⟨start - stop + 1, dn_loop (start := start) rfl hk hN way w0 w3 (start - stop) start [] (T + 1) m1 _ _ (by omega) h1 h2 (by omega) ⟨[], rfl⟩ rfl (by simp) (by simp) (by omega) ?_ hV1 (by omega) hfx ?_⟩
  · rw [gF.2.2 m.length (by simp) (by omega), List.getElem?_append_right (Nat.le_refl _)]
    simp
  · intro ch m' x6 x7 a1 a2 a3 a4 a5 a6 a7 a8
    walk_at "ev"
    simp only [a6]
    refine q ch _ a1 a2 a3 a4 (by omega) ?_ (a8.set (Nat.le_refl _)).take (((a7.set (by omega)).mono (by omega)).take hk)
    rw [List.length_take, List.length_set]
    have := a8.2.1
    omega
/-! ### what is a chain -/
def chD (ns : List Int) : PyData → Bool
  | .list l => !l.isEmpty && (l.all fun d => isInt d 0 ((ns.length : Int) - 1)) && (match intsOf l with
    | some cs => stepsB ns cs
    | none => false)
  | _ => false
theorem eqv_nil (l : List PyData) : PyData.eqv (.list l) (.list []) = l.isEmpty := by
  cases l <;> simp [PyData.eqv, PyData.eqvAll]
theorem stepsB_zip (ns : List Int) : ∀ cs : List Int, stepsB ns cs = (cs.zip (cs.drop 1)).all fun p => stepB ns p.1 p.2
  | [] => rfl
  | [_] => rfl
  | x :: y :: r => by
    rw [stepsB, stepsB_zip ns (y :: r)]
    simp
theorem zipU_ints (cs ds : List Int) : zipU (cs.map .int) (ds.map .int) = (cs.zip ds).map fun p => U.v (.tuple [.int p.1, .int p.2]) := by
  unfold zipU
  rw [List.zip_map, List.map_map]
  rfl
theorem all_isInt_ints {l : List PyData} {lo hi : Int} (h : (l.all fun d => isInt d lo hi) = true) : ∃ cs : List Int, l = cs.map .int ∧ ∀ c ∈ cs, lo ≤ c ∧ c ≤ hi := by
  rw [List.all_eq_true] at h
  obtain ⟨cs, rfl⟩ := all_ints fun d hd => isInt_int (h d hd)
  refine ⟨cs, rfl, fun c hc => ?_⟩
  have := h (.int c) (List.mem_map.mpr ⟨c, hc, rfl⟩)
  simp only [isInt, Bool.and_eq_true, decide_eq_true_eq] at this
  exact this
theorem chD_list {ns : List Int} {cs : List Int} (h : cs ≠ []) (hr : ((cs.map PyData.int).all fun d => isInt d 0 ((ns.length : Int) - 1)) = true) : chD ns (.list (cs.map .int)) = stepsB ns cs := by
  show (!(cs.map PyData.int).isEmpty && _ && (match intsOf (cs.map PyData.int) with
    | some cs => stepsB ns cs
    | none => false)) = _
  rw [hr, intsOf_map]
  cases cs with
  | nil => exact (h rfl).elim
  | cons => rfl
/-- the links as data or a cell, the value any data that == can be asked of -/
def sp_is_chain_of : ASp := fun us m Q => ∃ (u w : U) (ns : List Int) (d : PyData), us = [u, w] ∧ asL m u = some (ns.map .int) ∧ FormP ns ∧ asD m w = some d ∧ (∀ l, d = .list l → SeqAt.shaped (.list l) = true ∧ l.length ≤ 1000000) ∧ Q (.v (.bool (chD ns d))) m
theorem sem_is_chain_of (us : List U) (m : Sto) (Q : QA) (h : sp_is_chain_of us m Q) : g_is_chain_of sp_is_integer (endsD m.length Q) (startU 4 us) m := by
  obtain ⟨u, w, ns, d, rfl, hu, hN, hd, hsh, q⟩ := h
  unfold g_is_chain_of
  walk_at "ev"
  simp only [hd]
  cases d with
  | list l =>
    obtain ⟨sh, hz⟩ := hsh l rfl
    have hl := asL_of_D hd
    have sh0 := shaped_ll []
    rw [List.map_nil] at sh0
    simp only [kindD, k_list_list, hl, asS_of hl, asQ_of hl, sh, sh0, eqv_nil]
    walk_at "ev"
    refine ⟨by decide, sh, sh0, ?_⟩
    cases e : l.isEmpty with
    | true =>
      have : chD ns (.list l) = false := by
        show (!l.isEmpty && _ && _) = false
        rw [e]; rfl
      rw [this] at q
      walk_at "ev"
      exact q
    | false =>
      walk_at "ev"
      refine lcU_map U.v (fun _ => true) (fun d => .bool (isInt d 0 ((ns.length : Int) - 1))) (guard_self m w) l [] (by simp; omega) (fun d hd2 K1 K2 q1 q2 => ?_) ?_
      · walk_at "ev"
        simp only [asS_of hu, List.length_map]
        refine ⟨.v d, d, 0, _, rfl, rfl, ?_⟩
        exact q1 rfl
      · rw [filter_true, List.nil_append, map_bool]
        walk_at "ev"
        have ea : ((l.map fun d => isInt d 0 ((ns.length : Int) - 1)).all id) = l.all fun d => isInt d 0 ((ns.length : Int) - 1) := by rw [List.all_map]; rfl
        have hne : l ≠ [] := fun z => by rw [z] at e; cases e
        rw [ea]
        by_cases c : (l.all fun d => isInt d 0 ((ns.length : Int) - 1)) = true
        · obtain ⟨cs, rfl, hr⟩ := all_isInt_ints c
          have hcs : cs ≠ [] := fun z => hne (by rw [z]; rfl)
          rw [chD_list hcs c, stepsB_zip] at q
          simp only [c, hl, asQ_of hl]
          walk_at "ev"
          rw [show (some (1 : Int)) = some ((1 : Nat) : Int) from rfl, cutD_from, ← List.map_drop, zipU_ints]
          refine lcU_map (fun (p : Int × Int) => U.v (.tuple [.int p.1, .int p.2])) (fun _ => true) (fun p => .bool (stepB ns p.1 p.2)) ⟨guard_self m w, trivial⟩ _ [] (by rw [List.length_zip]; simp at hz ⊢; omega) (fun p hp K1 K2 q1 q2 => ?_) ?_
          · have hp1 := hr p.1 (List.of_mem_zip hp).1
            have ix := atI_ints (ns := ns) (j := p.1.toNat) (by omega)
            rw [Int.toNat_of_nonneg hp1.1] at ix
            walk_at "ev"
            simp only [asS_of hu, ix]
            walk_at "ev"
            refine ⟨by decide, rfl, rfl, ?_⟩
            have e5 : inD (.int p.2) [.int (p.1 - 1), .int (ns.getD p.1.toNat 0)] = decide (p.2 ∈ [p.1 - 1, ns.getD p.1.toNat 0]) := inD_i p.2 [p.1 - 1, ns.getD p.1.toNat 0]
            have q3 := q1 rfl
            unfold stepB at q3
            simp only [e5, List.mem_cons, List.not_mem_nil, or_false, Bool.decide_or]
            cases hB : (decide (p.2 = p.1 - 1) || decide (p.2 = ns.getD p.1.toNat 0)) with
            | true =>
              rw [hB, Bool.and_true] at q3
              simp only [if_true]
              exact q3
            | false =>
              rw [hB, Bool.and_false] at q3
              simp only [Bool.false_eq_true, if_false]
              exact q3
          · rw [filter_true, List.nil_append, map_bool]
            walk_at "ev"
            have e6 : (((cs.zip (cs.drop 1)).map fun p => stepB ns p.1 p.2).all id) = (cs.zip (cs.drop 1)).all fun p => stepB ns p.1 p.2 := by rw [List.all_map]; rfl
            rw [e6]
            exact q
        · have : chD ns (.list l) = false := by
            show (!l.isEmpty && (l.all fun d => isInt d 0 ((ns.length : Int) - 1)) && _) = false
            rw [Bool.eq_false_iff.mpr c, Bool.and_false]; rfl
          rw [this] at q
          simp only [c]
          walk_at "ev"
          exact q
  | _ =>
    simp only [kindD, k_NoneType_list, k_bool_list, k_int_list, k_str_list, k_tuple_list, k_dict_list, chD] at q ⊢
    walk_at "ev"
    exact q
def sp_is_chain : ASp := fun us m Q => ∃ (u w : U) (ns : List Int) (d : PyData), us = [u, w] ∧ asL m u = some (ns.map .int) ∧ LogP ns ∧ asD m w = some d ∧ (∀ l, d = .list l → SeqAt.shaped (.list l) = true ∧ l.length ≤ 1000000) ∧ Q (.v (.bool (chD ns d))) m
theorem sem_is_chain (us : List U) (m : Sto) (Q : QA) (h : sp_is_chain us m Q) : g_is_chain sp_need_log sp_is_chain_of (endsD m.length Q) (startU 2 us) m := by
  obtain ⟨u, w, ns, d, rfl, hu, hL, hd, hsh, q⟩ := h
  unfold g_is_chain
  walk_at "ev"
  refine ⟨u, ns, rfl, hu, by have := hL.1.2.1; omega, (logI_iff ns).mpr hL, ?_⟩
  walk_at "ev"
  refine ⟨u, w, ns, d, rfl, hu, hL.1, hd, hsh, ?_⟩
  walk_at "ev"
  exact q
/-! ### odd values -/
def oddL : List PyData := [.none, .int 0, .bool true, .str "", .str "0 0", .tuple [], .tuple [.int 0], .dict [], .list [], .list [.int 1], .list [.int (-1)], .list [.bool true], .list [.bool false], .list [.none], .list [.str "0"], .list [.list [.int 0]], .list [.tuple [.int 0]],
  .list [.int 0, .int 1], .list [.int 0, .int (-1)], .list [.int 0, .int 0, .int 2], .list [.int 0, .bool true], .list [.int 0, .bool false], .list [.int 0, .int 0, .int 0, .int 1], .list [.int 0, .none], .list [.int 0, .str "0"], .dict [(.int 0, .int 0)],
  .list (List.replicate 151 [PyData.int 0]).flatten, .list [.int 0, .int 0, .int 0, .int 3], .tuple [.int 0, .int 0], .list [.list [.int 0, .int 0]], .list [.int 0, .list [.int 0]], .list [.int 0, .int 0, .bool true]]
def sp_law_odd : ASp := fun us m Q => us = [] ∧ Q (.v (.list oddL)) m
theorem sem_law_odd (us : List U) (m : Sto) (Q : QA) (h : sp_law_odd us m Q) : g_law_odd (endsD m.length Q) (startU 1 us) m := by
  obtain ⟨rfl, q⟩ := h
  unfold g_law_odd
  walk_at "ev"
  repeat (refine ⟨by decide, ?_⟩)
  exact q
theorem odd_shaped : ∀ d ∈ oddL, ∀ l, d = .list l → SeqAt.shaped (.list l) = true ∧ l.length ≤ 1000000 := by
  have h : (oddL.all fun d => match d with
      | .list l => SeqAt.shaped (.list l) && decide (l.length ≤ 1000000)
      | _ => true) = true := by decide +kernel
  intro d hd l e
  have := List.all_eq_true.mp h d hd
  subst e
  simp only [Bool.and_eq_true, decide_eq_true_eq] at this
  exact this
theorem cutD_len (l : List PyData) (a b : Option Int) : (cutD l a b).length ≤ l.length := by
  unfold cutD
  rw [List.length_take, List.length_drop]
  omega
theorem cutD_mem {l : List PyData} {a b : Option Int} {x : PyData} (h : x ∈ cutD l a b) : x ∈ l := List.mem_of_mem_drop (List.mem_of_mem_take h)
/-- a list whose items are small -/
def Gd (L : Nat) (l : List PyData) : Prop := l.length ≤ L ∧ ∀ e ∈ l, Shw 41 1 200 e
theorem Gd.cut {L : Nat} {l : List PyData} (h : Gd L l) (a b : Option Int) : Gd L (cutD l a b) := ⟨Nat.le_trans (cutD_len l a b) h.1, fun e he => h.2 e (cutD_mem he)⟩
theorem Gd.app {L L' : Nat} {l l' : List PyData} (h : Gd L l) (h' : Gd L' l') : Gd (L + L') (l ++ l') := ⟨by rw [List.length_append]; have := h.1; have := h'.1; omega, fun e he => (List.mem_append.mp he).elim (h.2 e) (h'.2 e)⟩
theorem Gd.one {d : PyData} (h : Shw 41 1 200 d) : Gd 1 [d] := by
  refine ⟨by simp, fun e he => ?_⟩
  have : e = d := by simpa using he
  rw [this]
  exact h
theorem Gd.list {L : Nat} {l : List PyData} (h : Gd L l) (hL : L ≤ 460) : Shw 41 2 100000 (.list l) := (Shw.list (B := 41) (k := 1) (n := 200) (L := 460) h.2 (Nat.le_trans h.1 hL)).mono (Nat.le_refl _) (by decide)
theorem Gd.tup {L : Nat} {l : List PyData} (h : Gd L l) (hL : L ≤ 460) : Shw 41 2 100000 (.tuple l) := (Shw.tuple (B := 41) (k := 1) (n := 200) (L := 460) h.2 (Nat.le_trans h.1 hL)).mono (Nat.le_refl _) (by decide)
theorem Gd.le {L : Nat} {l : List PyData} (h : Gd L l) (hL : L ≤ 460) : l.length ≤ sizeLine := by rw [sizeLine_eq]; have := h.1; omega
theorem Gd.ints {L : Nat} {ns : List Int} (hl : ns.length ≤ L) (h : ∀ x ∈ ns, 0 ≤ x ∧ x ≤ 1000) : Gd L (ns.map PyData.int) := by
  refine ⟨by rw [List.length_map]; exact hl, fun e he => ?_⟩
  obtain ⟨i, hi, rfl⟩ := List.mem_map.mp he
  have := h i hi
  have p40 : (10 : Nat) ^ 40 = 10000000000000000000000000000000000000000 := by decide
  exact (Shw.int (B := 41) 40 (by decide) (by decide) (by decide) (by omega)).mono (by decide) (by decide)
end Z.P
/-! ZQ: how long the repr of data is, dicts too. -/
namespace Z
open PySem PySem.Spec PyProof.Rows L2
/-- data of ints of at most B signs, nested at most k deep, of weight at most n -/
structure Shx (B k n : Nat) (d : PyData) : Prop where
  shw : d.showable = true
  dep : d.depth ≤ k
  wt : d.weight ≤ n
  lv : PyData.leavesShort B d = true
theorem Shw.x {B k n : Nat} {d : PyData} (h : Shw B k n d) : Shx B k n d := ⟨h.shw, h.dep, h.wt, PyData.leavesShort_of_canLay0 B d h.lay h.sh⟩
theorem Shx.mono {B k n k' n' : Nat} {d : PyData} (h : Shx B k n d) (h1 : k ≤ k') (h2 : n ≤ n') : Shx B k' n' d := ⟨h.shw, Nat.le_trans h.dep h1, Nat.le_trans h.wt h2, h.lv⟩
theorem Shx.dict0 {B : Nat} : Shx B 1 0 (.dict []) := ⟨rfl, by simp [PyData.depth, PyData.depthKv], by simp [PyData.weight, PyData.weightKv], rfl⟩
theorem Shx.all {B k n : Nat} : ∀ {xs : List PyData}, (∀ d ∈ xs, Shx B k n d) → PyData.showableAll xs = true ∧ PyData.depthAll xs ≤ k ∧ PyData.weightAll xs ≤ (n + 1) * xs.length ∧ PyData.leavesShortAll B xs = true
  | [], _ => ⟨rfl, by simp [PyData.depthAll], by simp [PyData.weightAll], rfl⟩
  | x :: xs, h => by
    obtain ⟨h2, h3, h4, h5⟩ := Shx.all (xs := xs) fun d hd => h d (List.mem_cons_of_mem _ hd)
    obtain ⟨g2, g3, g4, g5⟩ := h x List.mem_cons_self
    refine ⟨?_, ?_, ?_, ?_⟩
    · rw [PyData.showableAll, g2, h2]; rfl
    · rw [PyData.depthAll]; omega
    · rw [PyData.weightAll, List.length_cons, Nat.mul_succ]; omega
    · rw [PyData.leavesShortAll, g5, h5]; rfl
theorem Shx.list {B k n L : Nat} {xs : List PyData} (h : ∀ d ∈ xs, Shx B k n d) (hl : xs.length ≤ L) : Shx B (k + 1) ((n + 1) * L) (.list xs) := by
  obtain ⟨h2, h3, h4, h5⟩ := Shx.all h
  have h6 := Nat.mul_le_mul_left (n + 1) hl
  exact ⟨by rw [PyData.showable]; exact h2, by rw [PyData.depth]; omega, by rw [PyData.weight]; omega, by rw [PyData.leavesShort]; exact h5⟩
theorem Shx.tuple {B k n L : Nat} {xs : List PyData} (h : ∀ d ∈ xs, Shx B k n d) (hl : xs.length ≤ L) : Shx B (k + 1) ((n + 1) * L) (.tuple xs) := by
  obtain ⟨h2, h3, h4, h5⟩ := Shx.all h
  have h6 := Nat.mul_le_mul_left (n + 1) hl
  exact ⟨by rw [PyData.showable]; exact h2, by rw [PyData.depth]; omega, by rw [PyData.weight]; omega, by rw [PyData.leavesShort]; exact h5⟩
theorem Shx.len {B k n : Nat} {d : PyData} (h : Shx B k n d) (hB : 8 ≤ B) : d.shown.length ≤ (B + 2) * n + B :=
  Nat.le_trans (PyData.shown_le B hB d h.lv) (Nat.add_le_add_right (Nat.mul_le_mul_left _ h.wt) _)
def ReprX (d : PyData) : Prop := d.showable = true ∧ d.depth ≤ 64 ∧ d.shown.length ≤ sizeLine
theorem Shx.ok {B k n : Nat} {d : PyData} (h : Shx B k n d) (hB : 8 ≤ B) (hk : k ≤ 64) (hn : (B + 2) * n + B ≤ 16777216) : ReprX d :=
  ⟨h.shw, Nat.le_trans h.dep hk, by rw [sizeLine_eq]; exact Nat.le_trans (h.len hB) hn⟩
theorem aReprX_of {u : U} {d : PyData} {m : Sto} {Q : QA} (e : asD m u = some d) (h : ReprX d) (q : Q (.v (.str d.shown)) m) : aReprX [u] m Q := by
  unfold aReprX
  simp only [e]
  exact ⟨h.1, h.2.1, h.2.2, q⟩
end Z
/-! X2: common entries of chains. -/
namespace Z.P
open PySem PySem.Spec PyProof.Rows L2 Z
local macro_rules | `(tactic| walk_at "ev") => `(tactic| try simp only [dSeq, dAsg, dVar, dC, dOp, dUn, dB, dChain, dAnd, dOr, dNot, dAndV, dOrV, dNotV, dIf, dNil, dCons, dLst, dLstM, dTup, dCB, dNext, dExpr, dRet, dRetN, dFrz, dIfS, dAsgG, dPar2, dPar3, dUnp, dMeth, dCall, dSl, dPart, dNoPart, dRev, dIsN, dNotN, dIsi, dSetIx, dLRg1, dLRg2, aSortedI, aExt2, dGet, dIn, dPut, dDctM0, dDctM1, dSortSet, dGet2, sRngD, dStep, dReprL, asDs, aExtend, aIndex, aCount, aCountB, dLRgD, dLRgZ, dTry, dTryO, rCall, xRaise, endX, dIsx, dIsxT, aCmpD, sRngS, aSortD, dLenSc, dSortSc, dAug, dFor, dWhile, dLc, dLcM, lcUM, dNever, dBreak, dCont, dYes, dPick,
  aAdd, aSub, aDiv, aMod, aPow, aI, aIc, aB, aMul, aNeg, aEq, aNe, aBB, aIn, aIx, aLen, aMax, aMin, aAbs, aSum, aAll, aAny, aList, aTuple, aInt, aSorted, aRepr, aAppend, aPop, aPopAt, aReverse, aClear, nw, allD, isNone, sList, sTup, sRng1, sRng2, sEnum, sZip, gN, gN0, gN1, gT, startU, endsD, retD, wipeE, setAll, 
  List.map_cons, List.map_nil, List.length_cons, List.length_nil, List.cons_append, List.nil_append, List.replicate, List.getElem?_cons_zero, List.getElem?_cons_succ, List.set_cons_zero, List.set_cons_succ, Nat.reduceAdd, Nat.reduceSub, Nat.reduceLeDiff, Nat.zero_add, Nat.add_zero, List.take_length, if_true, if_false, decide_true, decide_false, Bool.false_eq_true, Bool.not_true, Bool.not_false, Option.isSome_some, Option.map_some, Option.map_none, Option.bind_some, List.append_nil, true_and, and_true, asI_map, asB_map, shE_i, shE_b, shE_n, shE_s, shE_l, shE_t, asL_r, asD_r, asD_v, asL_v, asQ_v, asQ_s, asS_v, asS_t, asS_s, asQ_r, asS_r])
/-- lists of ints as data -/
def listsD (cs : List (List Int)) : List PyData := cs.map fun c => .list (c.map .int)
def optD : Option Int → PyData
  | none => .none
  | some e => .int e
/-- the first entry of the first one that all have -/
def gcL : List (List Int) → Option Int
  | [] => none
  | f :: o => f.find? fun e => o.all fun c => decide (e ∈ c)
def Dsc (c : List Int) : Prop := c.Pairwise (· > ·)
theorem find_dsc {p : Int → Bool} {e : Int} : ∀ {f : List Int}, Dsc f → e ∈ f → p e = true → (∀ x ∈ f, p x = true → x ≤ e) → f.find? p = some e
  | [], _, h, _, _ => by cases h
  | x :: f, d, h, hp, hm => by
    have d' := List.pairwise_cons.mp d
    by_cases c : p x = true
    · rw [List.find?_cons_of_pos c]
      rcases List.mem_cons.mp h with rfl | h1
      · rfl
      · have := hm x List.mem_cons_self c
        have := d'.1 e h1
        omega
    · rw [List.find?_cons_of_neg c]
      rcases List.mem_cons.mp h with rfl | h1
      · exact absurd hp c
      · exact find_dsc d'.2 h1 hp fun y hy => hm y (List.mem_cons_of_mem _ hy)
theorem gcL_mem {f : List Int} {o : List (List Int)} {e : Int} (h : gcL (f :: o) = some e) : ∀ c ∈ f :: o, e ∈ c := by
  intro c hc
  rcases List.mem_cons.mp hc with rfl | h1
  · exact List.mem_of_find?_eq_some h
  · have := List.find?_some h
    simp only [List.all_eq_true, decide_eq_true_eq] at this
    exact this c h1
theorem gcL_some {cs : List (List Int)} {e : Int} (ne : cs ≠ []) (d : ∀ c ∈ cs, Dsc c) (h : ∀ c ∈ cs, e ∈ c) (hm : ∀ x, (∀ c ∈ cs, x ∈ c) → x ≤ e) : gcL cs = some e := by
  cases cs with
  | nil => exact absurd rfl ne
  | cons f o =>
    refine find_dsc (d f List.mem_cons_self) (h f List.mem_cons_self) ?_ fun x hx hp => hm x fun c hc => ?_
    · simp only [List.all_eq_true, decide_eq_true_eq]
      exact fun c hc => h c (List.mem_cons_of_mem _ hc)
    · simp only [List.all_eq_true, decide_eq_true_eq] at hp
      rcases List.mem_cons.mp hc with rfl | h1
      · exact hx
      · exact hp c h1
theorem gcL_none {cs : List (List Int)} (h : ∀ x, ¬ ∀ c ∈ cs, x ∈ c) : gcL cs = none := by
  cases e : gcL cs with
  | none => rfl
  | some x =>
    cases cs with
    | nil => cases e
    | cons f o => exact absurd (gcL_mem e) (h x)
theorem find_max {p : Int → Bool} {e x : Int} : ∀ {f : List Int}, Dsc f → f.find? p = some e → x ∈ f → p x = true → x ≤ e
  | y :: f, d, h, hx, hp => by
    have d' := List.pairwise_cons.mp d
    by_cases c : p y = true
    · rw [List.find?_cons_of_pos c] at h
      cases h
      rcases List.mem_cons.mp hx with rfl | h1
      · exact Int.le_refl _
      · have := d'.1 x h1
        omega
    · rw [List.find?_cons_of_neg c] at h
      rcases List.mem_cons.mp hx with rfl | h1
      · exact absurd hp c
      · exact find_max d'.2 h h1 hp
theorem gcL_max {cs : List (List Int)} {e x : Int} (d : ∀ c ∈ cs, Dsc c) (h : gcL cs = some e) (hx : ∀ c ∈ cs, x ∈ c) : x ≤ e := by
  cases cs with
  | nil => cases h
  | cons f o =>
    refine find_max (d f List.mem_cons_self) h (hx f List.mem_cons_self) ?_
    simp only [List.all_eq_true, decide_eq_true_eq]
    exact fun c hc => hx c (List.mem_cons_of_mem _ hc)
/-- the order of the lists does not matter -/
theorem gcL_perm {cs ds : List (List Int)} (d : ∀ c ∈ cs, Dsc c) (h : ∀ c, c ∈ cs ↔ c ∈ ds) : gcL ds = gcL cs := by
  cases cs with
  | nil =>
    cases ds with
    | nil => rfl
    | cons a b => exact absurd ((h a).mpr List.mem_cons_self) (by simp)
  | cons f o =>
    cases e : gcL (f :: o) with
    | none =>
      refine gcL_none fun x hx => ?_
      have := List.find?_eq_none.mp e x (hx f ((h f).mp List.mem_cons_self))
      simp only [List.all_eq_true, decide_eq_true_eq] at this
      exact this fun c hc => hx c ((h c).mp (List.mem_cons_of_mem _ hc))
    | some x =>
      have ne : ds ≠ [] := fun z => by
        have := (h f).mp List.mem_cons_self
        rw [z] at this; cases this
      exact gcL_some ne (fun c hc => d c ((h c).mpr hc)) (fun c hc => gcL_mem e c ((h c).mpr hc)) fun y hy => gcL_max d e fun c hc => hy c ((h c).mp hc)
theorem steps_dsc {ns : List Int} : ∀ {c : List Int}, stepsB ns c = true → Dsc c
  | [], _ => .nil
  | [x], _ => List.pairwise_singleton _ _
  | x :: y :: r, h => by
    simp only [stepsB, Bool.and_eq_true] at h
    have ih := steps_dsc h.2
    have lt : y < x := by
      have := h.1
      unfold stepB at this
      simp only [Bool.and_eq_true, decide_eq_true_eq] at this
      exact this.1
    refine List.pairwise_cons.mpr ⟨fun z hz => ?_, ih⟩
    rcases List.mem_cons.mp hz with rfl | h1
    · exact lt
    · have := (List.pairwise_cons.mp ih).1 z h1
      omega
/-- a chain of a log -/
structure ChP (ns c : List Int) : Prop where
  ne : c ≠ []
  st : stepsB ns c = true
  rg : ∀ x ∈ c, 0 ≤ x ∧ x < ns.length
  ln : c.length ≤ 200
theorem ChP.chD {ns c : List Int} (h : ChP ns c) : chD ns (.list (c.map .int)) = true := by
  rw [chD_list h.ne, h.st]
  rw [List.all_map, List.all_eq_true]
  intro x hx
  have := h.rg x hx
  show (decide (0 ≤ x) && decide (x ≤ (ns.length : Int) - 1)) = true
  rw [decide_eq_true this.1, decide_eq_true (by omega)]; rfl
def sp_need_chain : ASp := fun us m Q => ∃ ns c : List Int, us = [.v (.list (ns.map .int)), .v (.list (c.map .int))] ∧ FormP ns ∧ ChP ns c ∧ Q (.v .none) m
theorem sem_need_chain (us : List U) (m : Sto) (Q : QA) (h : sp_need_chain us m Q) : g_need_chain sp_is_chain_of (endsD m.length Q) (startU 2 us) m := by
  obtain ⟨ns, c, rfl, hN, hc, q⟩ := h
  unfold g_need_chain
  walk_at "ev"
  refine ⟨_, _, ns, _, rfl, rfl, hN, rfl, fun l e => by cases e; exact ⟨shaped_ll _, by rw [List.length_map]; have := hc.ln; omega⟩, ?_⟩
  rw [hc.chD]
  walk_at "ev"
  exact q
/-! ### greatest_common -/
def sp_greatest_common : ASp := fun us m Q => ∃ cs : List (List Int), us = (listsD cs).map .v ∧ cs ≠ [] ∧ cs.length ≤ 1000 ∧ Q (.v (optD (gcL cs))) m
theorem gc_loop {D : AEnds} {e0 e1 : Option U} {o : List (List Int)} {m : Sto} (ho : o.length ≤ 1000) : ∀ (f : List Int) (x3 x4 : Option U),
    (match f.find? fun e => o.all fun c => decide (e ∈ c) with
      | some e => D.rt (.v (.int e)) m
      | none => ∀ x3 x4, D.nx [e0, e1, some (.v (.list (listsD o))), x3, x4] m) →
    forU (fun _ => True) (gN 3) b1_greatest_common D ((f.map PyData.int).map .v) [e0, e1, some (.v (.list (listsD o))), x3, x4] m
  | [], x3, x4, h => ⟨trivial, h _ _⟩
  | e :: f, x3, x4, h => by
    refine ⟨trivial, ?_⟩
    unfold b1_greatest_common
    walk_at "ev"
    have em : (listsD o).map U.v = o.map fun (c : List Int) => U.v (.list (c.map .int)) := by unfold listsD; rw [List.map_map]; rfl
    rw [em]
    refine lcU_map (fun (c : List Int) => U.v (.list (c.map .int))) (fun _ => true) (fun c => .bool (decide (e ∈ c))) trivial o [] (by simp; omega) (fun c hc K1 K2 q1 q2 => ?_) ?_
    · walk_at "ev"
      rw [inD_i]
      exact ⟨rfl, flat_ints _, q1 rfl⟩
    rw [filter_true, List.nil_append, map_bool]
    walk_at "ev"
    have e1 : ((o.map fun c => decide (e ∈ c)).all id) = o.all fun c => decide (e ∈ c) := by rw [List.all_map]; rfl
    rw [e1]
    cases c : o.all fun c => decide (e ∈ c) with
    | true =>
      have e2 : (e :: f).find? (fun e => o.all fun c => decide (e ∈ c)) = some e := List.find?_cons_of_pos (p := fun e => o.all fun c => decide (e ∈ c)) c
      rw [e2] at h
      simp only [if_true]
      exact h
    | false =>
      have e2 : (e :: f).find? (fun e => o.all fun c => decide (e ∈ c)) = f.find? (fun e => o.all fun c => decide (e ∈ c)) := List.find?_cons_of_neg (p := fun e => o.all fun c => decide (e ∈ c)) (by rw [c]; exact Bool.false_ne_true)
      rw [e2] at h
      simp only [Bool.false_eq_true, if_false]
      exact gc_loop ho f _ _ h
theorem sem_greatest_common (us : List U) (m : Sto) (Q : QA) (h : sp_greatest_common us m Q) : ∃ (ws : List U) (ds : List PyData), us = ws ++ ds.map U.v ∧ ws.length = 0 ∧ ds.length ≤ sizeLine ∧ g_greatest_common (endsD m.length Q) (startU 5 (ws ++ [.v (.tuple ds)])) m := by
  obtain ⟨cs, rfl, ne, hl, q⟩ := h
  refine ⟨[], listsD cs, rfl, rfl, by unfold listsD; rw [List.length_map, sizeLine_eq]; omega, ?_⟩
  cases cs with
  | nil => exact absurd rfl ne
  | cons f o =>
    unfold g_greatest_common
    have el : listsD (f :: o) = .list (f.map .int) :: listsD o := rfl
    have lo : o.length ≤ 1000 := by rw [List.length_cons] at hl; omega
    have ll : (listsD o).length < 16000 := by unfold listsD; rw [List.length_map]; omega
    rw [el]
    unfold dAsgHead
    walk_at "ev"
    refine ⟨ll, ?_⟩
    refine gc_loop lo f _ _ ?_
    have q' : Q (.v (optD (f.find? fun e => o.all fun c => decide (e ∈ c)))) m := q
    cases e : f.find? fun e => o.all fun c => decide (e ∈ c) with
    | some x =>
      rw [e] at q'
      walk_at "ev"
      exact q'
    | none =>
      rw [e] at q'
      intro x3 x4
      walk_at "ev"
      exact q'
/-! ### meeting_of -/
def sp_meeting_of : ASp := fun us m Q => ∃ (ns : List Int) (cs : List (List Int)), us = .v (.list (ns.map .int)) :: (listsD cs).map .v ∧ LogP ns ∧ cs ≠ [] ∧ cs.length ≤ 1000 ∧ (∀ c ∈ cs, ChP ns c) ∧ Q (.v (optD (gcL cs))) m
theorem nc_loop {D : AEnds} {ns : List Int} {e1 : Option U} {m : Sto} (hN : FormP ns) (h : ∀ x2, D.nx [some (.v (.list (ns.map .int))), e1, x2] m) : ∀ (cs : List (List Int)) (x2 : Option U), (∀ c ∈ cs, ChP ns c) →
    forU (fun _ => True) (gN 2) (b1_meeting_of sp_need_log sp_need_chain sp_greatest_common) D ((listsD cs).map .v) [some (.v (.list (ns.map .int))), e1, x2] m
  | [], x2, _ => ⟨trivial, h _⟩
  | c :: cs, x2, hc => by
    refine ⟨trivial, ?_⟩
    unfold b1_meeting_of
    walk_at "ev"
    refine ⟨ns, c, rfl, hN, hc c List.mem_cons_self, ?_⟩
    exact nc_loop hN h cs _ fun x hx => hc x (List.mem_cons_of_mem _ hx)
theorem sem_meeting_of (us : List U) (m : Sto) (Q : QA) (h : sp_meeting_of us m Q) : ∃ (ws : List U) (ds : List PyData), us = ws ++ ds.map U.v ∧ ws.length = 1 ∧ ds.length ≤ sizeLine ∧ g_meeting_of sp_need_log sp_need_chain sp_greatest_common (endsD m.length Q) (startU 3 (ws ++ [.v (.tuple ds)])) m := by
  obtain ⟨ns, cs, rfl, hL, ne, hl, hc, q⟩ := h
  refine ⟨[.v (.list (ns.map .int))], listsD cs, rfl, rfl, by unfold listsD; rw [List.length_map, sizeLine_eq]; omega, ?_⟩
  have el : (listsD cs).length = cs.length := by simp [listsD]
  have n0 : cs.length ≠ 0 := fun z => ne (List.length_eq_zero_iff.mp z)
  unfold g_meeting_of
  walk_at "ev"
  refine ⟨_, ns, rfl, rfl, by have := hL.1.2.1; omega, (logI_iff ns).mpr hL, ?_⟩
  walk_at "ev"
  simp only [eqv_ii, el]
  rw [decide_eq_false (by omega : ¬ ((cs.length : Int) = 0))]
  walk_at "ev"
  refine nc_loop hL.1 (fun x2 => ?_) cs _ hc
  unfold dCallT
  walk_at "ev"
  exact ⟨cs, rfl, ne, hl, ret_v _ _ _ _ (by rw [List.take_length]; exact q)⟩
end Z.P
/-! X4: chains counted and numbered. -/
namespace Z.P
open PySem PySem.Spec PyProof.Rows L2 Z
local macro_rules | `(tactic| walk_at "ev") => `(tactic| try simp only [dSeq, dAsg, dVar, dC, dOp, dUn, dB, dChain, dAnd, dOr, dNot, dAndV, dOrV, dNotV, dIf, dNil, dCons, dLst, dLstM, dTup, dCB, dNext, dExpr, dRet, dRetN, dFrz, dIfS, dAsgG, dPar2, dPar3, dUnp, dMeth, dCall, dSl, dPart, dNoPart, dRev, dIsN, dNotN, dIsi, dSetIx, dLRg1, dLRg2, aSortedI, aExt2, dGet, dIn, dPut, dDctM0, dDctM1, dSortSet, dGet2, sRngD, dStep, dReprL, asDs, aExtend, aIndex, aCount, aCountB, dLRgD, dLRgZ, dTry, dTryO, rCall, xRaise, endX, dIsx, dIsxT, aCmpD, sRngS, aSortD, dLenSc, dSortSc, dAug, dFor, dWhile, dLc, dLcM, lcUM, dNever, dBreak, dCont, dYes, dPick,
  aAdd, aSub, aDiv, aMod, aPow, aI, aIc, aB, aMul, aNeg, aEq, aNe, aBB, aIn, aIx, aLen, aMax, aMin, aAbs, aSum, aAll, aAny, aList, aTuple, aInt, aSorted, aRepr, aAppend, aPop, aPopAt, aReverse, aClear, nw, allD, isNone, sList, sTup, sRng1, sRng2, sEnum, sZip, gN, gN0, gN1, gT, startU, endsD, retD, wipeE, setAll, 
  List.map_cons, List.map_nil, List.length_cons, List.length_nil, List.cons_append, List.nil_append, List.replicate, List.getElem?_cons_zero, List.getElem?_cons_succ, List.set_cons_zero, List.set_cons_succ, Nat.reduceAdd, Nat.reduceSub, Nat.reduceLeDiff, Nat.zero_add, Nat.add_zero, List.take_length, if_true, if_false, decide_true, decide_false, Bool.false_eq_true, Bool.not_true, Bool.not_false, Option.isSome_some, Option.map_some, Option.map_none, Option.bind_some, List.append_nil, true_and, and_true, asI_map, asB_map, shE_i, shE_b, shE_n, shE_s, shE_l, shE_t, asL_r, asD_r, asD_v, asL_v, asQ_v, asQ_s, asS_v, asS_t, asS_s, asQ_r, asS_r])
/-- the number of chains -/
def cN (ns : List Int) (e c : Nat) : Nat := if h : e < c then (if h2 : e ≤ lk ns c ∧ lk ns c < c - 1 then cN ns e (lk ns c) else 0) + cN ns e (c - 1) else 1
termination_by c
decreasing_by all_goals omega
def nxL (ns : List Int) (p e : Nat) : List Nat := if e ≤ lk ns p ∧ lk ns p < p - 1 then [lk ns p, p - 1] else [p - 1]
theorem cN_end {ns : List Int} {e c : Nat} (h : c ≤ e) : cN ns e c = 1 := by rw [cN, dif_neg (by omega)]
theorem cN_go {ns : List Int} {e c : Nat} (h : e < c) : cN ns e c = ((nxL ns c e).map (cN ns e)).sum := by
  rw [cN, dif_pos h]
  unfold nxL
  split
  · simp
  · simp
theorem cN_pos {ns : List Int} {e : Nat} : ∀ n c : Nat, c ≤ n → 1 ≤ cN ns e c
  | 0, c, hc => by rw [cN_end (by omega)]; exact Nat.le_refl 1
  | n + 1, c, hc => by
    by_cases h : e < c
    · rw [cN, dif_pos h]
      have := cN_pos (ns := ns) (e := e) n (c - 1) (by omega)
      omega
    · rw [cN_end (by omega)]; exact Nat.le_refl 1
theorem nxL_mem {ns : List Int} {p e k : Nat} (hL : LogP ns) (hp : p < ns.length) (he : e < p) (h : k ∈ nxL ns p e) : e ≤ k ∧ k < p := by
  unfold nxL at h
  split at h
  · simp only [List.mem_cons, List.not_mem_nil, or_false] at h
    rcases h with rfl | rfl <;> omega
  · rw [List.mem_singleton.mp h]; omega
theorem nxL_len (ns : List Int) (p e : Nat) : (nxL ns p e).length ≤ 2 := by unfold nxL; split <;> simp
/-- ascending lists of the same members -/
theorem sorted_eq : ∀ {a b : List Int}, a.Pairwise (· < ·) → b.Pairwise (· < ·) → (∀ k, k ∈ a ↔ k ∈ b) → a = b
  | [], [], _, _, _ => rfl
  | [], y :: b, _, _, h => absurd ((h y).mpr List.mem_cons_self) (by simp)
  | x :: a, [], _, _, h => absurd ((h x).mp List.mem_cons_self) (by simp)
  | x :: a, y :: b, pa, pb, h => by
    have pa' := List.pairwise_cons.mp pa
    have pb' := List.pairwise_cons.mp pb
    have exy : x = y := by
      have h1 := (h x).mp List.mem_cons_self
      have h2 := (h y).mpr List.mem_cons_self
      rcases List.mem_cons.mp h1 with z | z
      · exact z
      · rcases List.mem_cons.mp h2 with z2 | z2
        · exact z2.symm
        · have := pb'.1 x z
          have := pa'.1 y z2
          omega
    subst exy
    have : a = b := sorted_eq pa'.2 pb'.2 fun k => by
      constructor
      · intro hk
        have := pa'.1 k hk
        rcases List.mem_cons.mp ((h k).mp (List.mem_cons_of_mem _ hk)) with z | z
        · omega
        · exact z
      · intro hk
        have := pb'.1 k hk
        rcases List.mem_cons.mp ((h k).mpr (List.mem_cons_of_mem _ hk)) with z | z
        · omega
        · exact z
    rw [this]
def sp_next_entries : ASp := fun us m Q => ∃ (u : U) (ns : List Int) (p e : Nat), us = [u, .v (.int (p : Int)), .v (.int (e : Int))] ∧ asL m u = some (ns.map .int) ∧ LogP ns ∧ p < ns.length ∧ e < p ∧ Q (.v (.list (nats (nxL ns p e)))) m
theorem sem_next_entries (us : List U) (m : Sto) (Q : QA) (h : sp_next_entries us m Q) : g_next_entries (endsD m.length Q) (startU 4 us) m := by
  obtain ⟨u, ns, p, e, rfl, hu, hL, hp, he, q⟩ := h
  have l1 := lk_le hL hp
  have e1 : ((p : Int) - 1) = ((p - 1 : Nat) : Int) := by omega
  unfold g_next_entries
  walk_at "ev"
  simp only [asS_of hu, atI_ints hp, lk_int hL hp]
  walk_at "ev"
  rw [e1]
  have fin : ∀ acc : List Int, (∀ k : Int, k ∈ acc ↔ k ∈ (nxL ns p e).map fun (n : Nat) => (n : Int)) → ∀ l : List Int, l.Pairwise (· < ·) → (∀ k, k ∈ l ↔ k ∈ acc) → Q (.v (.list (l.map .int))) m := fun acc ha l pw hl => by
    have pn : ((nxL ns p e).map fun (n : Nat) => (n : Int)).Pairwise (· < ·) := by
      unfold nxL
      split
      · simp; omega
      · simp
    rw [sorted_eq pw pn fun k => (hl k).trans (ha k), ← nats_ints]
    exact q
  refine ⟨by decide, trivial, ?_⟩
  walk_at "ev"
  by_cases c1 : e ≤ lk ns p
  · have c1' : (e : Int) ≤ ((lk ns p : Nat) : Int) := by omega
    simp only [c1', decide_true, if_true]
    refine ⟨by decide, trivial, ?_⟩
    walk_at "ev"
    have c2 : (e : Int) ≤ ((p - 1 : Nat) : Int) := by omega
    simp only [c2, decide_true, if_true]
    refine ⟨by simp [addK], trivial, fun l pw hl => ?_⟩
    rw [List.take_length]
    refine fin _ (fun k => ?_) l pw hl
    rw [addK_mem, addK_mem]
    unfold nxL
    by_cases c3 : lk ns p < p - 1
    · rw [if_pos ⟨c1, c3⟩]; simp
    · rw [if_neg (fun z => c3 z.2)]
      have : lk ns p = p - 1 := by omega
      rw [this]; simp
  · have c1' : ¬ (e : Int) ≤ ((lk ns p : Nat) : Int) := by omega
    simp only [c1', decide_false, Bool.false_eq_true, if_false]
    refine ⟨trivial, ?_⟩
    walk_at "ev"
    have c2 : (e : Int) ≤ ((p - 1 : Nat) : Int) := by omega
    simp only [c2, decide_true, if_true]
    refine ⟨by decide, trivial, fun l pw hl => ?_⟩
    rw [List.take_length]
    refine fin _ (fun k => ?_) l pw hl
    rw [addK_mem]
    unfold nxL
    rw [if_neg (fun z => c1 z.1)]; simp
/-! ### numbers_to -/
def sp_numbers_to : ASp := fun us m Q => ∃ (u : U) (ns : List Int) (s e : Nat), us = [u, .v (.int (s : Int)), .v (.int (e : Int))] ∧ asL m u = some (ns.map .int) ∧ LogP ns ∧ s < ns.length ∧ e ≤ s ∧ ∀ f, (∀ c, e ≤ c → c ≤ s → lookN f c = some (cN ns e c)) → Q (.v (.dict (mapN f))) m
theorem num_loop {D : AEnds} {u : U} {u1 : Option U} {m0 : Sto} {ns : List Int} (hL : LogP ns) (hu : asL m0 u = some (ns.map .int)) {e : Nat} : ∀ (n a : Nat) (f : List (Nat × Nat)) (x4 x5 : Option U), e < a → a + n ≤ ns.length → f.length ≤ a → (∀ c, e ≤ c → c < a → lookN f c = some (cN ns e c)) →
    (∀ f' x4 x5, (∀ c, e ≤ c → c < a + n → lookN f' c = some (cN ns e c)) → D.nx [some u, u1, some (.v (.int (e : Int))), some (.r m0.length), x4, x5] (m0 ++ [.dct (mapN f')])) →
    forU (fun _ => True) (gN 4) (b1_numbers_to sp_next_entries) D ((List.range' a n).map fun (j : Nat) => U.v (.int (j : Int))) [some u, u1, some (.v (.int (e : Int))), some (.r m0.length), x4, x5] (m0 ++ [.dct (mapN f)])
  | 0, a, f, x4, x5, ha, hn, hf, hl, h => ⟨trivial, h f _ _ hl⟩
  | n + 1, a, f, x4, x5, ha, hn, hf, hl, h => by
    rw [List.range'_succ, List.map_cons]
    obtain ⟨f', ef, lf, nf⟩ := put_mapN f a (cN ns e a)
    refine forU_step (fun E2 m2 => ∃ x4 x5, E2 = [some u, u1, some (.v (.int (e : Int))), some (.r m0.length), x4, x5] ∧ m2 = m0 ++ [.dct (mapN f')]) trivial ?_ ?_
    · rintro E2 m2 ⟨x4, x5, rfl, rfl⟩
      refine num_loop hL hu n (a + 1) f' x4 x5 (by omega) (by omega) (by omega) (fun c h1 h2 => ?_) fun f2 y4 y5 h2 => h f2 y4 y5 fun c c1 c2 => h2 c c1 (by omega)
      rw [lf]
      by_cases z : c = a
      · rw [if_pos z, z]
      · rw [if_neg z]; exact hl c h1 (by omega)
    intro J hJ
    have mK := mp_K (m0 := m0) (f := f)
    have mF := mp_F (m0 := m0) (f := f)
    unfold b1_numbers_to
    walk_at "ev"
    refine ⟨u, ns, a, e, rfl, asL_app hu, hL, by omega, ha, ?_⟩
    walk_at "ev"
    have en : (nats (nxL ns a e)).map U.v = (nxL ns a e).map fun (k : Nat) => U.v (.int (k : Int)) := by unfold nats; rw [List.map_map]; rfl
    rw [en]
    refine lcU_map (fun (k : Nat) => U.v (.int (k : Int))) (fun _ => true) (fun k => .int ((cN ns e k : Nat) : Int)) trivial (nxL ns a e) [] (by have := nxL_len ns a e; simp; omega) (fun k hk K1 K2 q1 q2 => ?_) ?_
    · have hm := nxL_mem hL (by omega) ha hk
      walk_at "ev"
      simp only [mK, kI, look_mapN, hl k hm.1 hm.2]
      exact q1 rfl
    · rw [filter_true, List.nil_append]
      have es : ((nxL ns a e).map fun k => PyData.int ((cN ns e k : Nat) : Int)) = ((nxL ns a e).map fun k => ((cN ns e k : Nat) : Int)).map .int := by rw [List.map_map]; rfl
      have ec : ((nxL ns a e).map fun k => ((cN ns e k : Nat) : Int)).sum = ((cN ns e a : Nat) : Int) := by
        rw [cN_go ha]
        generalize nxL ns a e = l
        induction l with
        | nil => rfl
        | cons x l ih => rw [List.map_cons, List.map_cons, List.sum_cons, List.sum_cons, ih]; push_cast; rfl
      rw [es]
      walk_at "ev"
      simp only [ec, mF, kI]
      rw [ef, mp_S]
      exact ⟨by unfold mapN; rw [List.length_map, sizeLine_eq]; have := hL.1.2.1; omega, hJ _ _ ⟨_, _, rfl, rfl⟩⟩
theorem sem_numbers_to (us : List U) (m : Sto) (Q : QA) (h : sp_numbers_to us m Q) : g_numbers_to sp_next_entries (endsD m.length Q) (startU 6 us) m := by
  obtain ⟨u, ns, s, e, rfl, hu, hL, hs, he, q⟩ := h
  have hz := hL.1.2.1
  unfold g_numbers_to
  walk_at "ev"
  simp only [kI]
  have e0 : [(PyData.int (e : Int), PyData.int 1)] = mapN [(e, 1)] := rfl
  rw [e0]
  refine ⟨by omega, ?_⟩
  rw [show ((e : Int) + 1) = ((e + 1 : Nat) : Int) by omega, show ((s : Int) + 1 - ((e + 1 : Nat) : Int)).toNat = s - e by omega, rngU_nat]
  refine num_loop hL hu (s - e) (e + 1) [(e, 1)] _ _ (by omega) (by omega) (by simp) (fun c h1 h2 => ?_) fun f x4 x5 hf => ?_
  · have : c = e := by omega
    rw [lookN_cons, if_pos this.symm, this, cN_end (Nat.le_refl _)]
  · have mF := mp_F (m0 := m) (f := f)
    walk_at "ev"
    simp only [mF]
    have et : List.take m.length ((m ++ [Cell.dct (mapN f)]).set m.length Cell.dead) = m := by simp
    rw [et]
    exact q f fun c h1 h2 => hf c h1 (by omega)
def sp_count_chains : ASp := fun us m Q => ∃ (u : U) (ns : List Int) (s e : Nat), us = [u, .v (.int (s : Int)), .v (.int (e : Int))] ∧ asL m u = some (ns.map .int) ∧ LogP ns ∧ s < ns.length ∧ e ≤ s ∧ Q (.v (.int ((cN ns e s : Nat) : Int))) m
theorem sem_count_chains (us : List U) (m : Sto) (Q : QA) (h : sp_count_chains us m Q) : g_count_chains sp_need_log sp_need_range sp_numbers_to (endsD m.length Q) (startU 3 us) m := by
  obtain ⟨u, ns, s, e, rfl, hu, hL, hs, he, q⟩ := h
  unfold g_count_chains
  walk_at "ev"
  refine ⟨u, ns, rfl, hu, by have := hL.1.2.1; omega, (logI_iff ns).mpr hL, ?_⟩
  walk_at "ev"
  refine ⟨u, ns, s, e, rfl, hu, hs, he, ?_⟩
  walk_at "ev"
  refine ⟨u, ns, s, e, rfl, hu, hL, hs, he, fun f hf => ?_⟩
  have ek : asK m (.v (.dict (mapN f))) = some (mapN f) := rfl
  walk_at "ev"
  simp only [ek, kI, look_mapN, hf s he (Nat.le_refl _)]
  walk_at "ev"
  exact q
/-! ### nth_chain -/
/-- the chain with a number -/
def nthC (ns : List Int) (e c k : Nat) : List Nat := c :: (if h : e < c then (if h2 : e ≤ lk ns c ∧ lk ns c < c - 1 then (if k < cN ns e (lk ns c) then nthC ns e (lk ns c) k else nthC ns e (c - 1) (k - cN ns e (lk ns c))) else nthC ns e (c - 1) k) else [])
termination_by c
decreasing_by all_goals omega
def leastN (ns : List Int) (e c : Nat) : Nat := if e ≤ lk ns c ∧ lk ns c < c - 1 then lk ns c else c - 1
/-- the next entry, and the number that is left -/
def stepK (ns : List Int) (e c k : Nat) : Nat × Nat := if k < cN ns e (leastN ns e c) then (leastN ns e c, k) else (c - 1, k - cN ns e (leastN ns e c))
theorem nthC_go {ns : List Int} {e c k : Nat} (h : e < c) (hk : k < cN ns e c) : nthC ns e c k = c :: nthC ns e (stepK ns e c k).1 (stepK ns e c k).2 ∧ (stepK ns e c k).2 < cN ns e (stepK ns e c k).1 ∧ e ≤ (stepK ns e c k).1 ∧ (stepK ns e c k).1 < c := by
  have hg := cN_go (ns := ns) h
  unfold nxL at hg
  unfold stepK leastN
  by_cases h2 : e ≤ lk ns c ∧ lk ns c < c - 1
  · rw [if_pos h2] at hg
    simp only [List.map_cons, List.map_nil, List.sum_cons, List.sum_nil] at hg
    rw [if_pos h2, nthC, dif_pos h, dif_pos h2]
    by_cases h3 : k < cN ns e (lk ns c)
    · rw [if_pos h3, if_pos h3]
      exact ⟨rfl, h3, h2.1, by omega⟩
    · rw [if_neg h3, if_neg h3]
      exact ⟨rfl, by show k - cN ns e (lk ns c) < cN ns e (c - 1); omega, by show e ≤ c - 1; omega, by show c - 1 < c; omega⟩
  · rw [if_neg h2] at hg
    simp only [List.map_cons, List.map_nil, List.sum_cons, List.sum_nil] at hg
    rw [if_neg h2, nthC, dif_pos h, dif_neg h2, if_pos (by omega)]
    exact ⟨rfl, by show k < cN ns e (c - 1); omega, by show e ≤ c - 1; omega, by show c - 1 < c; omega⟩
theorem nthC_end {ns : List Int} {e c k : Nat} (h : c ≤ e) : nthC ns e c k = [c] := by rw [nthC, dif_neg (by omega)]
theorem nxL_head (ns : List Int) (e c : Nat) : ∃ r, nats (nxL ns c e) = .int ((leastN ns e c : Nat) : Int) :: r := by
  unfold nxL leastN
  split <;> exact ⟨_, rfl⟩
def sp_nth_chain : ASp := fun us m Q => ∃ (u : U) (ns : List Int) (s e k : Nat), us = [u, .v (.int (s : Int)), .v (.int (e : Int)), .v (.int (k : Int))] ∧ asL m u = some (ns.map .int) ∧ LogP ns ∧ s < ns.length ∧ e ≤ s ∧ k < cN ns e s ∧ Q (.v (.list (nats (nthC ns e s k)))) m
theorem nth_loop {D : AEnds} {u : U} {u1 : Option U} {ns : List Int} {e s : Nat} {f : List (Nat × Nat)} {m0 : Sto} (hL : LogP ns) (hu : asL m0 u = some (ns.map .int)) (hs : s < ns.length) (hf : ∀ c, e ≤ c → c ≤ s → lookN f c = some (cN ns e c)) : ∀ (N c k : Nat) (pre : List PyData) (x6 : Option U), c ≤ e + N → c ≤ s → e ≤ c → k < cN ns e c → pre.length + c ≤ 1000 →
    (∀ x3 x6, D.nx [some u, u1, some (.v (.int (e : Int))), x3, some (.v (.dict (mapN f))), some (.r m0.length), x6] (m0 ++ [.lst (pre ++ nats (nthC ns e c k))])) →
    whN (t1_nth_chain sp_need_log sp_need_range sp_numbers_to sp_is_integer sp_next_entries) (b1_nth_chain sp_need_log sp_need_range sp_numbers_to sp_is_integer sp_next_entries) D (N + 1) [some u, u1, some (.v (.int (e : Int))), some (.v (.int (k : Int))), some (.v (.dict (mapN f))), some (.r m0.length), x6] (m0 ++ [.lst (pre ++ [.int (c : Int)])])
  | N, c, k, pre, x6, hN, hc, he, hk, hz, h => by
    have eF : ∀ l : List PyData, (m0 ++ [Cell.lst l])[m0.length]? = some (.lst l) := fun l => by rw [List.getElem?_append_right (Nat.le_refl _)]; simp
    have eS : ∀ l l' : List PyData, (m0 ++ [Cell.lst l]).set m0.length (.lst l') = m0 ++ [.lst l'] := fun l l' => by rw [List.set_append_right _ _ (Nat.le_refl _)]; simp
    have hu2 : ∀ x : Cell, asL (m0 ++ [x]) u = some (ns.map .int) := fun x => asL_app hu
    rw [whN]
    unfold t1_nth_chain
    walk_at "ev"
    simp only [eF, atI_last]
    by_cases q : c ≤ e
    · have q2 : ¬ ((e : Int) < (c : Int)) := by omega
      simp only [q2, decide_false, Bool.false_eq_true, if_false]
      have h' := h (some (.v (.int (k : Int)))) x6
      rw [nthC_end q] at h'
      exact h'
    · have q2 : (e : Int) < (c : Int) := by omega
      simp only [q2, decide_true, if_true]
      obtain ⟨N, rfl⟩ : ∃ M, N = M + 1 := ⟨N - 1, by omega⟩
      obtain ⟨g1, g2, g3, g4⟩ := nthC_go (ns := ns) (show e < c by omega) hk
      obtain ⟨r, hr⟩ := nxL_head ns e c
      have i0 : ∀ (x : PyData) (l : List PyData), atI (x :: l) 0 = some x := fun x l => by rw [atI_at (by decide) (by simp only [List.length_cons]; omega)]; rfl
      have hl : lookN f (leastN ns e c) = some (cN ns e (leastN ns e c)) := by
        refine hf _ ?_ ?_ <;> (unfold leastN; split <;> omega)
      have ek : ∀ x : Sto, asK x (.v (.dict (mapN f))) = some (mapN f) := fun _ => rfl
      have step : ∀ (x : Int) (x3 : Int) (x6 : Option U), x = (((stepK ns e c k).1 : Nat) : Int) → x3 = (((stepK ns e c k).2 : Nat) : Int) → (pre ++ [PyData.int (c : Int)]).length < sizeLine ∧ whN (t1_nth_chain sp_need_log sp_need_range sp_numbers_to sp_is_integer sp_next_entries) (b1_nth_chain sp_need_log sp_need_range sp_numbers_to sp_is_integer sp_next_entries) D (N + 1) [some u, u1, some (.v (.int (e : Int))), some (.v (.int x3)), some (.v (.dict (mapN f))), some (.r m0.length), x6] (m0 ++ [.lst (pre ++ [.int (c : Int)] ++ [.int x])]) := by
        rintro x x3 x6 rfl rfl
        refine ⟨by rw [List.length_append, sizeLine_eq]; simp; omega, ?_⟩
        refine nth_loop hL hu hs hf N (stepK ns e c k).1 (stepK ns e c k).2 (pre ++ [.int (c : Int)]) x6 (by omega) (by omega) g3 g2 (by rw [List.length_append]; simp; omega) fun y3 y6 => ?_
        have h' := h y3 y6
        rw [g1] at h'
        unfold nats at h' ⊢
        rw [List.map_cons] at h'
        rw [List.append_assoc]
        exact h'
      unfold b1_nth_chain
      walk_at "ev"
      simp only [eF, atI_last]
      refine ⟨u, ns, c, e, rfl, hu2 _, hL, by omega, by omega, ?_⟩
      rw [hr]
      walk_at "ev"
      simp only [i0, ek, kI, look_mapN, hl]
      walk_at "ev"
      by_cases z : k < cN ns e (leastN ns e c)
      · have z2 : (k : Int) < ((cN ns e (leastN ns e c) : Nat) : Int) := by omega
        simp only [z2, decide_true, if_true]
        walk_at "ev"
        simp only [eF, eS]
        exact ⟨rfl, step _ _ _ (by unfold stepK; rw [if_pos z]) (by unfold stepK; rw [if_pos z])⟩
      · have z2 : ¬ (k : Int) < ((cN ns e (leastN ns e c) : Nat) : Int) := by omega
        simp only [z2, decide_false, Bool.false_eq_true, if_false]
        walk_at "ev"
        simp only [eF, eS, atI_last]
        exact ⟨rfl, step _ _ _ (by unfold stepK; rw [if_neg z]; show (c : Int) - 1 = ((c - 1 : Nat) : Int); omega) (by unfold stepK; rw [if_neg z]; show (k : Int) - _ = ((k - cN ns e (leastN ns e c) : Nat) : Int); omega)⟩
theorem sem_nth_chain (us : List U) (m : Sto) (Q : QA) (h : sp_nth_chain us m Q) : g_nth_chain sp_need_log sp_need_range sp_numbers_to sp_is_integer sp_next_entries (endsD m.length Q) (startU 7 us) m := by
  obtain ⟨u, ns, s, e, k, rfl, hu, hL, hs, he, hk, q⟩ := h
  have hz := hL.1.2.1
  unfold g_nth_chain
  walk_at "ev"
  refine ⟨u, ns, rfl, hu, by omega, (logI_iff ns).mpr hL, ?_⟩
  walk_at "ev"
  refine ⟨u, ns, s, e, rfl, hu, hs, he, ?_⟩
  walk_at "ev"
  refine ⟨u, ns, s, e, rfl, hu, hL, hs, he, fun f hf => ?_⟩
  have ek : ∀ x : Sto, asK x (.v (.dict (mapN f))) = some (mapN f) := fun _ => rfl
  walk_at "ev"
  simp only [ek, kI, look_mapN, hf s he (Nat.le_refl _)]
  walk_at "ev"
  refine ⟨_, _, _, _, rfl, rfl, ?_⟩
  have ei : isInt (.int (k : Int)) 0 (((cN ns e s : Nat) : Int) - 1) = true := by
    show (decide ((0 : Int) ≤ k) && decide ((k : Int) ≤ ((cN ns e s : Nat) : Int) - 1)) = true
    rw [decide_eq_true (by omega), decide_eq_true (by omega)]; rfl
  rw [ei]
  walk_at "ev"
  refine ⟨by decide, (s - e) + 1, ?_⟩
  refine nth_loop hL hu hs hf (s - e) s k [] _ (by omega) (Nat.le_refl _) he hk (by simp; omega) fun x3 x6 => ?_
  have eF : ∀ l : List PyData, (m ++ [Cell.lst l])[m.length]? = some (.lst l) := fun l => by rw [List.getElem?_append_right (Nat.le_refl _)]; simp
  have et : ∀ a b : Cell, ((m ++ [a]).set m.length b).take m.length = m := fun a b => by simp
  walk_at "ev"
  simp only [eF, et]
  exact q
/-! ### chain_number -/
def rkC (ns : List Int) (e : Nat) : List Nat → Nat
  | x :: y :: r => (if leastN ns e x < y then cN ns e (leastN ns e x) else 0) + rkC ns e (y :: r)
  | _ => 0
/-- a chain from s to e, as naturals -/
structure ChN (ns : List Int) (s e : Nat) (ch : List Nat) : Prop where
  hd : ∃ r, ch = s :: r
  lt : ∃ l, ch = l ++ [e]
  st : stepsB ns (ch.map fun (n : Nat) => (n : Int)) = true
  rg : ∀ x ∈ ch, e ≤ x ∧ x ≤ s
  ln : ch.length ≤ s + 1
theorem ChN.ch {ns : List Int} {s e : Nat} {ch : List Nat} (h : ChN ns s e ch) (hL : LogP ns) (hs : s < ns.length) : ChP ns (ch.map fun (n : Nat) => (n : Int)) := by
  have hz := hL.1.2.1
  have h4 := h.ln
  refine ⟨by obtain ⟨r, rfl⟩ := h.hd; simp, h.st, fun x hx => ?_, by rw [List.length_map]; omega⟩
  obtain ⟨n, hn, rfl⟩ := List.mem_map.mp hx
  have := h.rg n hn
  omega
def sp_chain_number : ASp := fun us m Q => ∃ (ns : List Int) (s e : Nat) (ch : List Nat), us = [.v (.list (ns.map .int)), .v (.list (nats ch))] ∧ LogP ns ∧ s < ns.length ∧ e ≤ s ∧ ChN ns s e ch ∧ Q (.v (.int ((rkC ns e ch : Nat) : Int))) m
theorem cr_loop {D : AEnds} {gd : Sto → Prop} {ns : List Int} {e s : Nat} {f : List (Nat × Nat)} {full : List Nat} {m : Sto} (hgd : gd m) (hL : LogP ns) (hs : s < ns.length) (hl : ∃ l, full = l ++ [e]) (hf : ∀ c, e ≤ c → c ≤ s → lookN f c = some (cN ns e c)) : ∀ (ch : List Nat) (acc : Nat) (x4 x5 x6 : Option U), (ch.map fun (n : Nat) => (n : Int)).Pairwise (· > ·) → (∀ x ∈ ch, e ≤ x ∧ x ≤ s) →
    (∀ x4 x5 x6, D.nx [some (.v (.list (ns.map .int))), some (.v (.list (nats full))), some (.v (.dict (mapN f))), some (.v (.int ((acc + rkC ns e ch : Nat) : Int))), x4, x5, x6] m) →
    forU gd (gT 2 (gN1 (gN 4) (gN1 (gN 5) gN0))) (b1_chain_number sp_need_log sp_need_chain sp_numbers_to sp_next_entries) D (zipU (nats ch) ((nats ch).drop 1)) [some (.v (.list (ns.map .int))), some (.v (.list (nats full))), some (.v (.dict (mapN f))), some (.v (.int (acc : Int))), x4, x5, x6] m
  | [], acc, x4, x5, x6, hd, hr, h => ⟨hgd, h _ _ _⟩
  | [x], acc, x4, x5, x6, hd, hr, h => ⟨hgd, h _ _ _⟩
  | x :: y :: r, acc, x4, x5, x6, hd, hr, h => by
    have ez : zipU (nats (x :: y :: r)) ((nats (x :: y :: r)).drop 1) = U.v (.tuple [.int (x : Int), .int (y : Int)]) :: zipU (nats (y :: r)) ((nats (y :: r)).drop 1) := rfl
    rw [ez]
    have hx := hr x List.mem_cons_self
    have hy := hr y (List.mem_cons_of_mem _ List.mem_cons_self)
    have hd' := List.pairwise_cons.mp hd
    have hxy : (x : Int) > y := hd'.1 y List.mem_cons_self
    have ih := fun acc' x4 x5 x6 => cr_loop (D := D) (gd := gd) hgd hL hs hl hf (y :: r) acc' x4 x5 x6 hd'.2 fun z hz => hr z (List.mem_cons_of_mem _ hz)
    have hlk : lookN f (leastN ns e x) = some (cN ns e (leastN ns e x)) := by
      refine hf _ ?_ ?_ <;> (unfold leastN; split <;> omega)
    have ek : asK m (.v (.dict (mapN f))) = some (mapN f) := rfl
    have eL : atI (nats full) (-1) = some (.int (e : Int)) := by
      obtain ⟨l, rfl⟩ := hl
      unfold nats
      rw [List.map_append]
      exact atI_last
    obtain ⟨t, ht⟩ := nxL_head ns e x
    have i0 : ∀ (x : PyData) (l : List PyData), atI (x :: l) 0 = some x := fun x l => by rw [atI_at (by decide) (by simp only [List.length_cons]; omega)]; rfl
    refine forU_step (fun E2 m2 => ∃ x4 x5 x6, E2 = [some (.v (.list (ns.map .int))), some (.v (.list (nats full))), some (.v (.dict (mapN f))), some (.v (.int ((acc + (if leastN ns e x < y then cN ns e (leastN ns e x) else 0) : Nat) : Int))), x4, x5, x6] ∧ m2 = m) hgd ?_ ?_
    · rintro E2 m2 ⟨x4, x5, x6, rfl, rfl⟩
      refine ih _ x4 x5 x6 fun y4 y5 y6 => ?_
      have := h y4 y5 y6
      rw [rkC, ← Nat.add_assoc] at this
      exact this
    intro J hJ
    unfold b1_chain_number
    walk_at "ev"
    simp only [eL]
    refine ⟨_, ns, x, e, rfl, rfl, hL, by omega, by omega, ?_⟩
    rw [ht]
    walk_at "ev"
    simp only [i0, ek, kI, look_mapN, hlk]
    walk_at "ev"
    by_cases z : leastN ns e x < y
    · have z2 : ((leastN ns e x : Nat) : Int) < (y : Int) := by omega
      simp only [z2, decide_true, if_true]
      have this := hJ [some (.v (.list (ns.map .int))), some (.v (.list (nats full))), some (.v (.dict (mapN f))), some (.v (.int ((acc + (if leastN ns e x < y then cN ns e (leastN ns e x) else 0) : Nat) : Int))), some (.v (.int (x : Int))), some (.v (.int (y : Int))), some (.v (.int ((leastN ns e x : Nat) : Int)))] m ⟨_, _, _, rfl, rfl⟩
      rw [if_pos z] at this
      push_cast at this
      exact this
    · have z2 : ¬ ((leastN ns e x : Nat) : Int) < (y : Int) := by omega
      simp only [z2, decide_false, Bool.false_eq_true, if_false]
      have this := hJ [some (.v (.list (ns.map .int))), some (.v (.list (nats full))), some (.v (.dict (mapN f))), some (.v (.int ((acc + (if leastN ns e x < y then cN ns e (leastN ns e x) else 0) : Nat) : Int))), some (.v (.int (x : Int))), some (.v (.int (y : Int))), some (.v (.int ((leastN ns e x : Nat) : Int)))] m ⟨_, _, _, rfl, rfl⟩
      rw [if_neg z] at this
      push_cast at this
      exact this
theorem sem_chain_number (us : List U) (m : Sto) (Q : QA) (h : sp_chain_number us m Q) : g_chain_number sp_need_log sp_need_chain sp_numbers_to sp_next_entries (endsD m.length Q) (startU 7 us) m := by
  obtain ⟨ns, s, e, ch, rfl, hL, hs, he, hc, q⟩ := h
  have hz := hL.1.2.1
  have eL : atI (nats ch) (-1) = some (.int (e : Int)) := by
    obtain ⟨l, rfl⟩ := hc.lt
    unfold nats
    rw [List.map_append]
    exact atI_last
  have e0 : atI (nats ch) 0 = some (.int (s : Int)) := by
    obtain ⟨r, rfl⟩ := hc.hd
    unfold nats
    rw [List.map_cons, atI_at (by decide) (by simp only [List.length_cons]; omega)]; rfl
  unfold g_chain_number
  walk_at "ev"
  refine ⟨_, ns, rfl, rfl, by omega, (logI_iff ns).mpr hL, ?_⟩
  walk_at "ev"
  refine ⟨ns, ch.map fun (n : Nat) => (n : Int), by rw [nats_ints], hL.1, hc.ch hL hs, ?_⟩
  walk_at "ev"
  simp only [e0, eL]
  refine ⟨_, ns, s, e, rfl, rfl, hL, hs, he, fun f hf => ?_⟩
  walk_at "ev"
  rw [show (some (1 : Int)) = some ((1 : Nat) : Int) from rfl, cutD_from]
  refine cr_loop ⟨trivial, trivial⟩ hL hs hc.lt hf ch 0 _ _ _ (steps_dsc hc.st) hc.rg fun x4 x5 x6 => ?_
  rw [Nat.zero_add]
  walk_at "ev"
  exact q
end Z.P
/-! X5: the number of a chain and the chain with a number, plain law. -/
namespace Z.P
open PySem PySem.Spec PyProof.Rows L2 Z
theorem nthC_head (ns : List Int) (e c k : Nat) : ∃ r, nthC ns e c k = c :: r := by rw [nthC]; exact ⟨_, rfl⟩
theorem least_eq {ns : List Int} {e c : Nat} (h : e < c) (h2 : ¬ leastN ns e c < c - 1) : leastN ns e c = c - 1 ∧ cN ns e c = cN ns e (c - 1) := by
  have hg := cN_go (ns := ns) h
  unfold nxL at hg
  unfold leastN at h2 ⊢
  by_cases z : e ≤ lk ns c ∧ lk ns c < c - 1
  · rw [if_pos z] at h2
    exact absurd z.2 h2
  · rw [if_neg z] at hg ⊢
    simp only [List.map_cons, List.map_nil, List.sum_cons, List.sum_nil] at hg
    exact ⟨rfl, by omega⟩
theorem least_two {ns : List Int} {e c : Nat} (h : e < c) (h2 : leastN ns e c < c - 1) : leastN ns e c = lk ns c ∧ e ≤ lk ns c ∧ cN ns e c = cN ns e (leastN ns e c) + cN ns e (c - 1) := by
  have hg := cN_go (ns := ns) h
  unfold nxL at hg
  unfold leastN at h2 ⊢
  by_cases z : e ≤ lk ns c ∧ lk ns c < c - 1
  · rw [if_pos z] at hg ⊢
    simp only [List.map_cons, List.map_nil, List.sum_cons, List.sum_nil] at hg
    exact ⟨rfl, z.1, by omega⟩
  · rw [if_neg z] at h2
    omega
/-- the number of the chain with a number -/
theorem rk_nth {ns : List Int} {e : Nat} : ∀ n c k : Nat, c ≤ n → e ≤ c → k < cN ns e c → rkC ns e (nthC ns e c k) = k
  | n, c, k, hn, he, hk => by
    by_cases q : c ≤ e
    · rw [cN_end q] at hk
      rw [nthC_end q]
      show 0 = k
      omega
    · have h : e < c := by omega
      obtain ⟨n, rfl⟩ : ∃ j, n = j + 1 := ⟨n - 1, by omega⟩
      obtain ⟨g1, g2, g3, g4⟩ := nthC_go h hk
      have ih := rk_nth n (stepK ns e c k).1 (stepK ns e c k).2 (by omega) g3 g2
      obtain ⟨r, hr⟩ := nthC_head ns e (stepK ns e c k).1 (stepK ns e c k).2
      rw [g1, hr, rkC, ← hr, ih]
      by_cases z : k < cN ns e (leastN ns e c)
      · have e1 : stepK ns e c k = (leastN ns e c, k) := by unfold stepK; rw [if_pos z]
        rw [e1, if_neg (by show ¬ leastN ns e c < leastN ns e c; omega)]
        show 0 + k = k
        omega
      · have e1 : stepK ns e c k = (c - 1, k - cN ns e (leastN ns e c)) := by unfold stepK; rw [if_neg z]
        have lt : leastN ns e c < c - 1 := Classical.byContradiction fun w => by
          have := least_eq h w
          rw [this.1] at z
          omega
        rw [e1, if_pos (by show leastN ns e c < c - 1; exact lt)]
        show cN ns e (leastN ns e c) + (k - cN ns e (leastN ns e c)) = k
        omega
/-- a valid chain of naturals from c down to e -/
inductive Ch (ns : List Int) (e : Nat) : Nat → List Nat → Prop
  | one : Ch ns e e [e]
  | more {c y : Nat} {r : List Nat} : e ≤ y → y < c → (y = lk ns c ∨ y = c - 1) → Ch ns e y r → Ch ns e c (c :: r)
theorem Ch.head {ns : List Int} {e c : Nat} {l : List Nat} (h : Ch ns e c l) : ∃ r, l = c :: r := by cases h <;> exact ⟨_, rfl⟩
theorem Ch.ge {ns : List Int} {e c : Nat} {l : List Nat} (h : Ch ns e c l) : e ≤ c := by
  cases h with
  | one => exact Nat.le_refl _
  | more a b _ _ => omega
/-- the chain with the number of a chain -/
theorem nth_rk {ns : List Int} {e c : Nat} {l : List Nat} (h : Ch ns e c l) : rkC ns e l < cN ns e c ∧ nthC ns e c (rkC ns e l) = l := by
  induction h with
  | one => exact ⟨by rw [cN_end (Nat.le_refl _)]; exact Nat.zero_lt_one, nthC_end (Nat.le_refl _)⟩
  | @more c y r he hy hs hr ih =>
    obtain ⟨t, rfl⟩ := hr.head
    have h : e < c := by omega
    obtain ⟨i1, i2⟩ := ih
    have key : rkC ns e (c :: y :: t) < cN ns e c ∧ stepK ns e c (rkC ns e (c :: y :: t)) = (y, rkC ns e (y :: t)) := by
      rw [rkC]
      by_cases z : leastN ns e c < c - 1
      · obtain ⟨w1, w2, w3⟩ := least_two h z
        by_cases q : leastN ns e c < y
        · have ey : y = c - 1 := by omega
          subst ey
          rw [if_pos q]
          refine ⟨by omega, ?_⟩
          unfold stepK
          rw [if_neg (by omega)]
          congr 1
          omega
        · have ey : y = leastN ns e c := by omega
          rw [if_neg q, Nat.zero_add]
          rw [ey] at i1 ⊢
          refine ⟨by omega, ?_⟩
          unfold stepK
          rw [if_pos i1]
      · obtain ⟨w1, w2⟩ := least_eq h z
        have ey : y = c - 1 := by
          rcases hs with q | q
          · unfold leastN at w1
            by_cases v : e ≤ lk ns c ∧ lk ns c < c - 1
            · rw [if_pos v] at w1; omega
            · omega
          · exact q
        rw [if_neg (by omega), Nat.zero_add]
        rw [ey] at i1 ⊢
        refine ⟨by omega, ?_⟩
        unfold stepK
        rw [w1, if_pos i1]
    refine ⟨key.1, ?_⟩
    obtain ⟨g1, _, _, _⟩ := nthC_go h key.1
    rw [g1, key.2]
    show c :: nthC ns e y (rkC ns e (y :: t)) = _
    rw [i2]
theorem nth_ch {ns : List Int} {e : Nat} : ∀ n c k : Nat, c ≤ n → e ≤ c → k < cN ns e c → Ch ns e c (nthC ns e c k)
  | n, c, k, hn, he, hk => by
    by_cases q : c ≤ e
    · rw [nthC_end q]
      have : c = e := by omega
      subst this
      exact .one
    · have h : e < c := by omega
      obtain ⟨n, rfl⟩ : ∃ j, n = j + 1 := ⟨n - 1, by omega⟩
      obtain ⟨g1, g2, g3, g4⟩ := nthC_go h hk
      have ih := nth_ch n (stepK ns e c k).1 (stepK ns e c k).2 (by omega) g3 g2
      rw [g1]
      refine .more g3 g4 ?_ ih
      unfold stepK
      split
      · show leastN ns e c = lk ns c ∨ leastN ns e c = c - 1
        unfold leastN
        split
        · exact .inl rfl
        · exact .inr rfl
      · exact .inr rfl
/-- from the program's word for a chain -/
theorem Ch.of {ns : List Int} {e : Nat} (hL : LogP ns) : ∀ {l : List Nat} {c : Nat}, c < ns.length → (∃ r, l = c :: r) → (∃ r, l = r ++ [e]) → stepsB ns (l.map fun (n : Nat) => (n : Int)) = true → (∀ x ∈ l, e ≤ x) → Ch ns e c l
  | [], c, _, ⟨r, h⟩, _, _, _ => by cases h
  | [x], c, _, ⟨r, h⟩, ⟨t, h2⟩, _, _ => by
    cases h
    have : x = e := by
      cases t with
      | nil => simpa using h2
      | cons a b => simp at h2
    subst this
    exact .one
  | x :: y :: r, c, hc, ⟨r', h⟩, ⟨t, h2⟩, hs, hg => by
    cases h
    simp only [List.map_cons, stepsB, Bool.and_eq_true] at hs
    obtain ⟨s1, s2⟩ := hs
    unfold stepB at s1
    simp only [Bool.and_eq_true, Bool.or_eq_true, decide_eq_true_eq, Int.toNat_natCast] at s1
    have hy := hg y (List.mem_cons_of_mem _ List.mem_cons_self)
    refine .more hy (by omega) ?_ (Ch.of hL (by omega) ⟨_, rfl⟩ ?_ s2 fun z hz => hg z (List.mem_cons_of_mem _ hz))
    · rcases s1.2 with q | q
      · right; omega
      · left
        rw [lk_int hL hc] at q
        omega
    · cases t with
      | nil => simp at h2
      | cons a b =>
        refine ⟨b, ?_⟩
        rw [List.cons_append] at h2
        exact (List.cons.inj h2).2
end Z.P
/-! XG: chains with numbers, plain law; links and chains that are cells; all chains by recursion. -/
namespace Z.P
open PySem PySem.Spec PyProof.Rows L2 Z
local macro_rules | `(tactic| walk_at "ev") => `(tactic| try simp only [dSeq, dAsg, dVar, dC, dOp, dUn, dB, dChain, dAnd, dOr, dNot, dAndV, dOrV, dNotV, dIf, dNil, dCons, dLst, dLstM, dTup, dCB, dNext, dExpr, dRet, dRetN, dFrz, dIfS, dAsgG, dPar2, dPar3, dUnp, dMeth, dCall, dSl, dPart, dNoPart, dRev, dIsN, dNotN, dIsi, dSetIx, dLRg1, dLRg2, aSortedI, aExt2, dGet, dIn, dPut, dDctM0, dDctM1, dSortSet, dGet2, sRngD, dStep, dReprL, asDs, aExtend, aIndex, aCount, aCountB, dLRgD, dLRgZ, dTry, dTryO, rCall, xRaise, endX, dIsx, dIsxT, aCmpD, sRngS, aSortD, dLenSc, dSortSc, dAug, dFor, dWhile, dLc, dLcM, lcUM, dNever, dBreak, dCont, dYes, dPick,
  aAdd, aSub, aDiv, aMod, aPow, aI, aIc, aB, aMul, aNeg, aEq, aNe, aBB, aIn, aIx, aLen, aMax, aMin, aAbs, aSum, aAll, aAny, aList, aTuple, aInt, aSorted, aRepr, aAppend, aPop, aPopAt, aReverse, aClear, nw, allD, isNone, sList, sTup, sRng1, sRng2, sEnum, sZip, gN, gN0, gN1, gT, startU, endsD, retD, wipeE, setAll, 
  List.map_cons, List.map_nil, List.length_cons, List.length_nil, List.cons_append, List.nil_append, List.replicate, List.getElem?_cons_zero, List.getElem?_cons_succ, List.set_cons_zero, List.set_cons_succ, Nat.reduceAdd, Nat.reduceSub, Nat.reduceLeDiff, Nat.zero_add, Nat.add_zero, List.take_length, if_true, if_false, decide_true, decide_false, Bool.false_eq_true, Bool.not_true, Bool.not_false, Option.isSome_some, Option.map_some, Option.map_none, Option.bind_some, List.append_nil, true_and, and_true, asI_map, asB_map, shE_i, shE_b, shE_n, shE_s, shE_l, shE_t, asL_r, asD_r, asD_v, asL_v, asQ_v, asQ_s, asS_v, asS_t, asS_s, asQ_r, asS_r])
theorem sorted_eqN : ∀ {a b : List Nat}, a.Pairwise (· < ·) → b.Pairwise (· < ·) → (∀ k, k ∈ a ↔ k ∈ b) → a = b := by
  intro a b pa pb h
  have c : ∀ {l : List Nat}, l.Pairwise (· < ·) → (l.map fun (n : Nat) => (n : Int)).Pairwise (· < ·) := fun p => List.pairwise_map.mpr (p.imp fun h => by omega)
  have e := sorted_eq (c pa) (c pb) fun k => by
    rw [List.mem_map, List.mem_map]
    constructor
    · rintro ⟨n, hn, rfl⟩; exact ⟨n, (h n).mp hn, rfl⟩
    · rintro ⟨n, hn, rfl⟩; exact ⟨n, (h n).mpr hn, rfl⟩
  exact List.map_inj_right (fun x y z => by omega) |>.mp e
theorem nx_eq {ns : List Int} (hL : LogP ns) {p e : Nat} (hp : p < ns.length) (he : e < p) {l : List Nat} (h : Nx ns p e l) : l = nxL ns p e := by
  have l1 := lk_le hL hp
  refine sorted_eqN h.1 ?_ fun k => (h.2 k).trans ?_
  · unfold nxL
    split
    · simp; omega
    · simp
  · unfold nxL
    split
    · simp only [List.mem_cons, List.not_mem_nil, or_false]; omega
    · simp only [List.mem_singleton]; omega
theorem nth_lt {ns : List Int} {e : Nat} : ∀ n c k k' : Nat, c ≤ n → e ≤ c → k < k' → k' < cN ns e c → ltI ((nthC ns e c k).map fun (n : Nat) => (n : Int)) ((nthC ns e c k').map fun (n : Nat) => (n : Int)) = true
  | n, c, k, k', hn, he, hk, hk' => by
    by_cases q : c ≤ e
    · rw [cN_end q] at hk'
      omega
    · have h : e < c := by omega
      obtain ⟨n, rfl⟩ : ∃ j, n = j + 1 := ⟨n - 1, by omega⟩
      obtain ⟨g1, g2, g3, g4⟩ := nthC_go h (show k < cN ns e c by omega)
      obtain ⟨g1', g2', g3', g4'⟩ := nthC_go h hk'
      rw [g1, g1', List.map_cons, List.map_cons, ltI, if_pos rfl]
      obtain ⟨r, hr⟩ := nthC_head ns e (stepK ns e c k).1 (stepK ns e c k).2
      obtain ⟨r', hr'⟩ := nthC_head ns e (stepK ns e c k').1 (stepK ns e c k').2
      by_cases z : k < cN ns e (leastN ns e c)
      · have e1 : stepK ns e c k = (leastN ns e c, k) := by unfold stepK; rw [if_pos z]
        by_cases z' : k' < cN ns e (leastN ns e c)
        · have e2 : stepK ns e c k' = (leastN ns e c, k') := by unfold stepK; rw [if_pos z']
          rw [e1] at g3 g4 ⊢
          rw [e2]
          exact nth_lt n _ k k' (by show leastN ns e c ≤ n; have : leastN ns e c < c := g4; omega) g3 hk z'
        · have e2 : stepK ns e c k' = (c - 1, k' - cN ns e (leastN ns e c)) := by unfold stepK; rw [if_neg z']
          have lt : leastN ns e c < c - 1 := Classical.byContradiction fun w => by
            have := least_eq h w
            rw [this.1] at z'
            omega
          rw [hr, hr', List.map_cons, List.map_cons, ltI, e1, e2]
          have ne : ¬ (((leastN ns e c : Nat) : Int) = ((c - 1 : Nat) : Int)) := by omega
          rw [if_neg ne]
          exact decide_eq_true (by show ((leastN ns e c : Nat) : Int) < ((c - 1 : Nat) : Int); omega)
      · have z' : ¬ k' < cN ns e (leastN ns e c) := by omega
        have e1 : stepK ns e c k = (c - 1, k - cN ns e (leastN ns e c)) := by unfold stepK; rw [if_neg z]
        have e2 : stepK ns e c k' = (c - 1, k' - cN ns e (leastN ns e c)) := by unfold stepK; rw [if_neg z']
        rw [e2] at g2'
        rw [e1, e2]
        exact nth_lt n (c - 1) _ _ (by omega) (by omega) (by show k - cN ns e (leastN ns e c) < k' - cN ns e (leastN ns e c); omega) g2'
theorem ch_to {ns : List Int} (hL : LogP ns) {e c : Nat} {l : List Nat} (h : Ch ns e c l) : c < ns.length → ChN ns c e l := by
  induction h with
  | one => exact fun _ => ⟨⟨[], rfl⟩, ⟨[], rfl⟩, rfl, by simp, by simp⟩
  | @more c y r he hy hs hr ih =>
    intro hc
    have i := ih (by omega)
    obtain ⟨t, rfl⟩ := hr.head
    refine ⟨⟨_, rfl⟩, ?_, ?_, ?_, ?_⟩
    · obtain ⟨l, hl⟩ := i.lt
      exact ⟨c :: l, by rw [hl]; rfl⟩
    · have st := i.st
      rw [List.map_cons] at st ⊢
      rw [List.map_cons, stepsB, st, Bool.and_true]
      unfold stepB
      rw [Int.toNat_natCast, lk_int hL hc, decide_eq_true (by omega : (y : Int) < (c : Int)), Bool.true_and, Bool.or_eq_true, decide_eq_true_eq, decide_eq_true_eq]
      rcases hs with q | q
      · right; omega
      · left; omega
    · intro x hx
      rcases List.mem_cons.mp hx with rfl | h1
      · omega
      · have := i.rg x h1
        omega
    · have := i.ln
      rw [List.length_cons]
      omega
theorem cN_le {ns : List Int} {e : Nat} : ∀ n c : Nat, c ≤ n → cN ns e c ≤ 2 ^ c
  | 0, c, hc => by rw [cN_end (by omega)]; exact Nat.one_le_two_pow
  | n + 1, c, hc => by
    by_cases h : e < c
    · have h1 := cN_le (ns := ns) (e := e) n (c - 1) (by omega)
      have e2 : 2 ^ c = 2 ^ (c - 1) + 2 ^ (c - 1) := by
        obtain ⟨k, rfl⟩ : ∃ k, c = k + 1 := ⟨c - 1, by omega⟩
        rw [Nat.pow_succ]; show _ = 2 ^ k + 2 ^ k; omega
      rw [cN, dif_pos h]
      split
      · rename_i z
        have h2 := cN_le (ns := ns) (e := e) n (lk ns c) (by omega)
        have h3 : 2 ^ lk ns c ≤ 2 ^ (c - 1) := Nat.pow_le_pow_right (by decide) (by omega)
        omega
      · omega
    · rw [cN_end (by omega)]; exact Nat.one_le_two_pow
theorem cd_many {ns : List Int} {e s : Nat} (hs : s < 9000) : CDv 0 ((cN ns e s : Nat) : Int) := by
  have p := cN_pos (ns := ns) (e := e) s s (Nat.le_refl _)
  refine ⟨by omega, .inr ?_⟩
  rw [Int.natAbs_natCast]
  refine (Nat.log2_lt (by omega)).mpr (Nat.lt_of_le_of_lt (cN_le s s (Nat.le_refl _)) (Nat.pow_lt_pow_right (by decide) hs))
theorem ch_ok {ns : List Int} (hL : LogP ns) {s e : Nat} {l : List Nat} (hs : s < ns.length) (h : ChN ns s e l) : ReprX (.list (nats l)) := by
  have hz := hL.1.2.1
  have := h.ln
  rw [nats_ints]
  refine (Shw.ints (B := 8) 3 151 (by decide) (by decide) (by decide) (by rw [List.length_map]; omega) fun i hi => ?_).x.ok (by decide) (by decide) (by decide)
  obtain ⟨j, hj, rfl⟩ := List.mem_map.mp hi
  have := h.rg j hj
  omega
def sp_nth_chain_2 : ASp := fun us m Q => ∃ (u : U) (ns : List Int) (s e k : Nat), us = [u, .v (.int (s : Int)), .v (.int (e : Int)), .v (.int (k : Int))] ∧ asL m u = some (ns.map .int) ∧ LogP ns ∧ s < ns.length ∧ e ≤ s ∧ k < cN ns e s ∧ Q (.r m.length) (m ++ [.lst (nats (nthC ns e s k))])
theorem nth_loop2 {D : AEnds} {u : U} {u1 : Option U} {ns : List Int} {e s : Nat} {f : List (Nat × Nat)} {m0 : Sto} (hL : LogP ns) (hu : asL m0 u = some (ns.map .int)) (hs : s < ns.length) (hf : ∀ c, e ≤ c → c ≤ s → lookN f c = some (cN ns e c)) : ∀ (N c k : Nat) (pre : List PyData) (x6 : Option U), c ≤ e + N → c ≤ s → e ≤ c → k < cN ns e c → pre.length + c ≤ 1000 →
    (∀ x3 x6, D.nx [some u, u1, some (.v (.int (e : Int))), x3, some (.v (.dict (mapN f))), some (.r m0.length), x6] (m0 ++ [.lst (pre ++ nats (nthC ns e c k))])) →
    whN (t1_nth_chain_2 sp_need_log sp_need_range sp_numbers_to sp_is_integer sp_next_entries) (b1_nth_chain_2 sp_need_log sp_need_range sp_numbers_to sp_is_integer sp_next_entries) D (N + 1) [some u, u1, some (.v (.int (e : Int))), some (.v (.int (k : Int))), some (.v (.dict (mapN f))), some (.r m0.length), x6] (m0 ++ [.lst (pre ++ [.int (c : Int)])])
  | N, c, k, pre, x6, hN, hc, he, hk, hz, h => by
    have eF : ∀ l : List PyData, (m0 ++ [Cell.lst l])[m0.length]? = some (.lst l) := fun l => by rw [List.getElem?_append_right (Nat.le_refl _)]; simp
    have eS : ∀ l l' : List PyData, (m0 ++ [Cell.lst l]).set m0.length (.lst l') = m0 ++ [.lst l'] := fun l l' => by rw [List.set_append_right _ _ (Nat.le_refl _)]; simp
    have hu2 : ∀ x : Cell, asL (m0 ++ [x]) u = some (ns.map .int) := fun x => asL_app hu
    rw [whN]
    unfold t1_nth_chain_2
    walk_at "ev"
    simp only [eF, atI_last]
    by_cases q : c ≤ e
    · have q2 : ¬ ((e : Int) < (c : Int)) := by omega
      simp only [q2, decide_false, Bool.false_eq_true, if_false]
      have h' := h (some (.v (.int (k : Int)))) x6
      rw [nthC_end q] at h'
      exact h'
    · have q2 : (e : Int) < (c : Int) := by omega
      simp only [q2, decide_true, if_true]
      obtain ⟨N, rfl⟩ : ∃ M, N = M + 1 := ⟨N - 1, by omega⟩
      obtain ⟨g1, g2, g3, g4⟩ := nthC_go (ns := ns) (show e < c by omega) hk
      obtain ⟨r, hr⟩ := nxL_head ns e c
      have i0 : ∀ (x : PyData) (l : List PyData), atI (x :: l) 0 = some x := fun x l => by rw [atI_at (by decide) (by simp only [List.length_cons]; omega)]; rfl
      have hl : lookN f (leastN ns e c) = some (cN ns e (leastN ns e c)) := by
        refine hf _ ?_ ?_ <;> (unfold leastN; split <;> omega)
      have ek : ∀ x : Sto, asK x (.v (.dict (mapN f))) = some (mapN f) := fun _ => rfl
      have step : ∀ (x : Int) (x3 : Int) (x6 : Option U), x = (((stepK ns e c k).1 : Nat) : Int) → x3 = (((stepK ns e c k).2 : Nat) : Int) → (pre ++ [PyData.int (c : Int)]).length < sizeLine ∧ whN (t1_nth_chain_2 sp_need_log sp_need_range sp_numbers_to sp_is_integer sp_next_entries) (b1_nth_chain_2 sp_need_log sp_need_range sp_numbers_to sp_is_integer sp_next_entries) D (N + 1) [some u, u1, some (.v (.int (e : Int))), some (.v (.int x3)), some (.v (.dict (mapN f))), some (.r m0.length), x6] (m0 ++ [.lst (pre ++ [.int (c : Int)] ++ [.int x])]) := by
        rintro x x3 x6 rfl rfl
        refine ⟨by rw [List.length_append, sizeLine_eq]; simp; omega, ?_⟩
        refine nth_loop2 hL hu hs hf N (stepK ns e c k).1 (stepK ns e c k).2 (pre ++ [.int (c : Int)]) x6 (by omega) (by omega) g3 g2 (by rw [List.length_append]; simp; omega) fun y3 y6 => ?_
        have h' := h y3 y6
        rw [g1] at h'
        unfold nats at h' ⊢
        rw [List.map_cons] at h'
        rw [List.append_assoc]
        exact h'
      unfold b1_nth_chain_2
      walk_at "ev"
      simp only [eF, atI_last]
      refine ⟨u, ns, c, e, rfl, hu2 _, hL, by omega, by omega, ?_⟩
      rw [hr]
      walk_at "ev"
      simp only [i0, ek, kI, look_mapN, hl]
      walk_at "ev"
      by_cases z : k < cN ns e (leastN ns e c)
      · have z2 : (k : Int) < ((cN ns e (leastN ns e c) : Nat) : Int) := by omega
        simp only [z2, decide_true, if_true]
        walk_at "ev"
        simp only [eF, eS]
        exact ⟨rfl, step _ _ _ (by unfold stepK; rw [if_pos z]) (by unfold stepK; rw [if_pos z])⟩
      · have z2 : ¬ (k : Int) < ((cN ns e (leastN ns e c) : Nat) : Int) := by omega
        simp only [z2, decide_false, Bool.false_eq_true, if_false]
        walk_at "ev"
        simp only [eF, eS, atI_last]
        exact ⟨rfl, step _ _ _ (by unfold stepK; rw [if_neg z]; show (c : Int) - 1 = ((c - 1 : Nat) : Int); omega) (by unfold stepK; rw [if_neg z]; show (k : Int) - _ = ((k - cN ns e (leastN ns e c) : Nat) : Int); omega)⟩
theorem sem_nth_chain_2 (us : List U) (m : Sto) (Q : QA) (h : sp_nth_chain_2 us m Q) : g_nth_chain_2 sp_need_log sp_need_range sp_numbers_to sp_is_integer sp_next_entries (endsD m.length Q) (startU 7 us) m := by
  obtain ⟨u, ns, s, e, k, rfl, hu, hL, hs, he, hk, q⟩ := h
  have hz := hL.1.2.1
  unfold g_nth_chain_2
  walk_at "ev"
  refine ⟨u, ns, rfl, hu, by omega, (logI_iff ns).mpr hL, ?_⟩
  walk_at "ev"
  refine ⟨u, ns, s, e, rfl, hu, hs, he, ?_⟩
  walk_at "ev"
  refine ⟨u, ns, s, e, rfl, hu, hL, hs, he, fun f hf => ?_⟩
  have ek : ∀ x : Sto, asK x (.v (.dict (mapN f))) = some (mapN f) := fun _ => rfl
  walk_at "ev"
  simp only [ek, kI, look_mapN, hf s he (Nat.le_refl _)]
  walk_at "ev"
  refine ⟨_, _, _, _, rfl, rfl, ?_⟩
  have ei : isInt (.int (k : Int)) 0 (((cN ns e s : Nat) : Int) - 1) = true := by
    show (decide ((0 : Int) ≤ k) && decide ((k : Int) ≤ ((cN ns e s : Nat) : Int) - 1)) = true
    rw [decide_eq_true (by omega), decide_eq_true (by omega)]; rfl
  rw [ei]
  walk_at "ev"
  refine ⟨by decide, (s - e) + 1, ?_⟩
  refine nth_loop2 hL hu hs hf (s - e) s k [] _ (by omega) (Nat.le_refl _) he hk (by simp; omega) fun x3 x6 => ?_
  have eF : ∀ l : List PyData, (m ++ [Cell.lst l])[m.length]? = some (.lst l) := fun l => by rw [List.getElem?_append_right (Nat.le_refl _)]; simp
  have et : ∀ a b : Cell, ((m ++ [a]).set m.length b).take m.length = m := fun a b => by simp
  walk_at "ev"
  simp only [eF, Nat.lt_irrefl, if_false]
  rw [List.take_left]
  exact q
def sp_need_chain_u : ASp := fun us m Q => ∃ (u v : U) (ns c : List Int), us = [u, v] ∧ asL m u = some (ns.map .int) ∧ asL m v = some (c.map .int) ∧ FormP ns ∧ ChP ns c ∧ Q (.v .none) m
theorem sem_need_chain_u (us : List U) (m : Sto) (Q : QA) (h : sp_need_chain_u us m Q) : g_need_chain sp_is_chain_of (endsD m.length Q) (startU 2 us) m := by
  obtain ⟨u, v, ns, c, rfl, hu, hv, hN, hc, q⟩ := h
  unfold g_need_chain
  walk_at "ev"
  refine ⟨_, _, ns, _, rfl, hu, hN, asD_of hv, fun l e => by cases e; exact ⟨shaped_ll _, by rw [List.length_map]; have := hc.ln; omega⟩, ?_⟩
  rw [hc.chD]
  walk_at "ev"
  exact q
def sp_chain_number_u : ASp := fun us m Q => ∃ (u v : U) (ns : List Int) (s e : Nat) (ch : List Nat), us = [u, v] ∧ asL m u = some (ns.map .int) ∧ asL m v = some (nats ch) ∧ LogP ns ∧ s < ns.length ∧ e ≤ s ∧ ChN ns s e ch ∧ Q (.v (.int ((rkC ns e ch : Nat) : Int))) m
theorem cr_loopU {D : AEnds} {gd : Sto → Prop} {ns : List Int} {e s : Nat} {f : List (Nat × Nat)} {full : List Nat} {u v : U} {m : Sto} (hu : asL m u = some (ns.map .int)) (hv : asL m v = some (nats full)) (hgd : gd m) (hL : LogP ns) (hs : s < ns.length) (hl : ∃ l, full = l ++ [e]) (hf : ∀ c, e ≤ c → c ≤ s → lookN f c = some (cN ns e c)) : ∀ (ch : List Nat) (acc : Nat) (x4 x5 x6 : Option U), (ch.map fun (n : Nat) => (n : Int)).Pairwise (· > ·) → (∀ x ∈ ch, e ≤ x ∧ x ≤ s) →
    (∀ x4 x5 x6, D.nx [some u, some v, some (.v (.dict (mapN f))), some (.v (.int ((acc + rkC ns e ch : Nat) : Int))), x4, x5, x6] m) →
    forU gd (gT 2 (gN1 (gN 4) (gN1 (gN 5) gN0))) (b1_chain_number sp_need_log sp_need_chain_u sp_numbers_to sp_next_entries) D (zipU (nats ch) ((nats ch).drop 1)) [some u, some v, some (.v (.dict (mapN f))), some (.v (.int (acc : Int))), x4, x5, x6] m
  | [], acc, x4, x5, x6, hd, hr, h => ⟨hgd, h _ _ _⟩
  | [x], acc, x4, x5, x6, hd, hr, h => ⟨hgd, h _ _ _⟩
  | x :: y :: r, acc, x4, x5, x6, hd, hr, h => by
    have ez : zipU (nats (x :: y :: r)) ((nats (x :: y :: r)).drop 1) = U.v (.tuple [.int (x : Int), .int (y : Int)]) :: zipU (nats (y :: r)) ((nats (y :: r)).drop 1) := rfl
    rw [ez]
    have hx := hr x List.mem_cons_self
    have hy := hr y (List.mem_cons_of_mem _ List.mem_cons_self)
    have hd' := List.pairwise_cons.mp hd
    have hxy : (x : Int) > y := hd'.1 y List.mem_cons_self
    have ih := fun acc' x4 x5 x6 => cr_loopU (D := D) (gd := gd) hu hv hgd hL hs hl hf (y :: r) acc' x4 x5 x6 hd'.2 fun z hz => hr z (List.mem_cons_of_mem _ hz)
    have hlk : lookN f (leastN ns e x) = some (cN ns e (leastN ns e x)) := by
      refine hf _ ?_ ?_ <;> (unfold leastN; split <;> omega)
    have ek : asK m (.v (.dict (mapN f))) = some (mapN f) := rfl
    have eL : atI (nats full) (-1) = some (.int (e : Int)) := by
      obtain ⟨l, rfl⟩ := hl
      unfold nats
      rw [List.map_append]
      exact atI_last
    obtain ⟨t, ht⟩ := nxL_head ns e x
    have i0 : ∀ (x : PyData) (l : List PyData), atI (x :: l) 0 = some x := fun x l => by rw [atI_at (by decide) (by simp only [List.length_cons]; omega)]; rfl
    refine forU_step (fun E2 m2 => ∃ x4 x5 x6, E2 = [some u, some v, some (.v (.dict (mapN f))), some (.v (.int ((acc + (if leastN ns e x < y then cN ns e (leastN ns e x) else 0) : Nat) : Int))), x4, x5, x6] ∧ m2 = m) hgd ?_ ?_
    · rintro E2 m2 ⟨x4, x5, x6, rfl, rfl⟩
      refine ih _ x4 x5 x6 fun y4 y5 y6 => ?_
      have := h y4 y5 y6
      rw [rkC, ← Nat.add_assoc] at this
      exact this
    intro J hJ
    unfold b1_chain_number
    walk_at "ev"
    simp only [asS_of hv, eL]
    refine ⟨u, ns, x, e, rfl, hu, hL, by omega, by omega, ?_⟩
    rw [ht]
    walk_at "ev"
    simp only [i0, ek, kI, look_mapN, hlk]
    walk_at "ev"
    by_cases z : leastN ns e x < y
    · have z2 : ((leastN ns e x : Nat) : Int) < (y : Int) := by omega
      simp only [z2, decide_true, if_true]
      have this := hJ [some u, some v, some (.v (.dict (mapN f))), some (.v (.int ((acc + (if leastN ns e x < y then cN ns e (leastN ns e x) else 0) : Nat) : Int))), some (.v (.int (x : Int))), some (.v (.int (y : Int))), some (.v (.int ((leastN ns e x : Nat) : Int)))] m ⟨_, _, _, rfl, rfl⟩
      rw [if_pos z] at this
      push_cast at this
      exact this
    · have z2 : ¬ ((leastN ns e x : Nat) : Int) < (y : Int) := by omega
      simp only [z2, decide_false, Bool.false_eq_true, if_false]
      have this := hJ [some u, some v, some (.v (.dict (mapN f))), some (.v (.int ((acc + (if leastN ns e x < y then cN ns e (leastN ns e x) else 0) : Nat) : Int))), some (.v (.int (x : Int))), some (.v (.int (y : Int))), some (.v (.int ((leastN ns e x : Nat) : Int)))] m ⟨_, _, _, rfl, rfl⟩
      rw [if_neg z] at this
      push_cast at this
      exact this
theorem sem_chain_number_u (us : List U) (m : Sto) (Q : QA) (h : sp_chain_number_u us m Q) : g_chain_number sp_need_log sp_need_chain_u sp_numbers_to sp_next_entries (endsD m.length Q) (startU 7 us) m := by
  obtain ⟨u, v, ns, s, e, ch, rfl, hu, hv, hL, hs, he, hc, q⟩ := h
  have hz := hL.1.2.1
  have eL : atI (nats ch) (-1) = some (.int (e : Int)) := by
    obtain ⟨l, rfl⟩ := hc.lt
    unfold nats
    rw [List.map_append]
    exact atI_last
  have e0 : atI (nats ch) 0 = some (.int (s : Int)) := by
    obtain ⟨r, rfl⟩ := hc.hd
    unfold nats
    rw [List.map_cons, atI_at (by decide) (by simp only [List.length_cons]; omega)]; rfl
  unfold g_chain_number
  walk_at "ev"
  refine ⟨_, ns, rfl, hu, by omega, (logI_iff ns).mpr hL, ?_⟩
  walk_at "ev"
  refine ⟨u, v, ns, ch.map fun (n : Nat) => (n : Int), rfl, hu, by rw [hv, nats_ints], hL.1, hc.ch hL hs, ?_⟩
  walk_at "ev"
  simp only [asS_of hv, e0, eL]
  refine ⟨u, ns, s, e, rfl, hu, hL, hs, he, fun f hf => ?_⟩
  walk_at "ev"
  rw [show (some (1 : Int)) = some ((1 : Nat) : Int) from rfl]
  simp only [asQ_of hv, hv, cutD_from]
  refine cr_loopU hu hv ⟨guard_self _ _, trivial⟩ hL hs hc.lt hf ch 0 _ _ _ (steps_dsc hc.st) hc.rg fun x4 x5 x6 => ?_
  rw [Nat.zero_add]
  walk_at "ev"
  exact q
/-! ### all chains -/
def rowsN (ns : List Int) (e c : Nat) : List (List Nat) := (List.range (cN ns e c)).map (nthC ns e c)
theorem rowsN_len (ns : List Int) (e c : Nat) : (rowsN ns e c).length = cN ns e c := by simp [rowsN]
theorem rowsN_end {ns : List Int} {e : Nat} : rowsN ns e e = [[e]] := by
  unfold rowsN
  rw [cN_end (Nat.le_refl _)]
  simp [nthC_end]
theorem rowsN_go {ns : List Int} {e p : Nat} (h : e < p) : rowsN ns e p = ((nxL ns p e).map fun c => (rowsN ns e c).map (List.cons p)).flatten := by
  unfold nxL
  by_cases h2 : e ≤ lk ns p ∧ lk ns p < p - 1
  · have hc : cN ns e p = cN ns e (lk ns p) + cN ns e (p - 1) := by rw [cN, dif_pos h, dif_pos h2]
    rw [if_pos h2]
    simp only [List.map_cons, List.map_nil, List.flatten_cons, List.flatten_nil, List.append_nil]
    unfold rowsN
    rw [hc, List.range_add, List.map_append, List.map_map, List.map_map, List.map_map]
    congr 1
    · refine List.map_congr_left fun k hk => ?_
      have hk := List.mem_range.mp hk
      show nthC ns e p k = p :: nthC ns e (lk ns p) k
      rw [nthC, dif_pos h, dif_pos h2, if_pos hk]
    · refine List.map_congr_left fun k hk => ?_
      show nthC ns e p (cN ns e (lk ns p) + k) = p :: nthC ns e (p - 1) k
      rw [nthC, dif_pos h, dif_pos h2, if_neg (by omega), Nat.add_sub_cancel_left]
  · have hc : cN ns e p = cN ns e (p - 1) := by rw [cN, dif_pos h, dif_neg h2]; omega
    rw [if_neg h2]
    simp only [List.map_cons, List.map_nil, List.flatten_cons, List.flatten_nil, List.append_nil]
    unfold rowsN
    rw [hc, List.map_map]
    refine List.map_congr_left fun k hk => ?_
    show nthC ns e p k = p :: nthC ns e (p - 1) k
    rw [nthC, dif_pos h, dif_neg h2]
def listD (l : List Nat) : PyData := .list (nats l)
/-- ascending data and a sorted list of the same -/
theorem perm_asc : ∀ {a b : List PyData}, a.Pairwise (fun x y => PySem.W.dataLt x y = true) → b.Perm a → b.Pairwise (fun x y => PySem.W.dataLt y x = false) → b = a
  | [], b, _, p, _ => List.Perm.eq_nil p
  | x :: a, [], _, p, _ => absurd (List.Perm.length_eq p) (by simp)
  | x :: a, y :: b, pa, p, pb => by
    have pa' := List.pairwise_cons.mp pa
    have pb' := List.pairwise_cons.mp pb
    have exy : y = x := by
      rcases List.mem_cons.mp (p.mem_iff.mpr List.mem_cons_self) with z | z
      · exact z.symm
      · rcases List.mem_cons.mp (p.mem_iff.mp List.mem_cons_self) with z2 | z2
        · exact z2
        · have h1 := pa'.1 y z2
          have h2 := pb'.1 x z
          rw [h1] at h2
          cases h2
    subst exy
    rw [perm_asc pa'.2 (List.Perm.cons_inv p) pb'.2]
theorem rows_asc {ns : List Int} {e c : Nat} (he : e ≤ c) : ((rowsN ns e c).map listD).Pairwise (fun x y => PySem.W.dataLt x y = true) := by
  unfold rowsN
  rw [List.map_map]
  refine List.pairwise_map.mpr ((List.pairwise_lt_range (n := cN ns e c)).imp_of_mem fun {i j} hi hj h => ?_)
  show PySem.W.dataLt (.list (nats (nthC ns e c i))) (.list (nats (nthC ns e c j))) = true
  rw [nats_ints, nats_ints, dataLt_ints]
  exact nth_lt c c i j (Nat.le_refl _) he h (List.mem_range.mp hj)
end Z.P
-- gen: --rec._law_every=12 --sem.chain_number=sem_chain_number_u --sem.need_chain=sem_need_chain_u
/-! S09: chains counted and numbered. -/
namespace Z.K09
open PySem PySem.Spec PyProof.Rows L2 Z Z.P
local macro_rules | `(tactic| walk_at "ev") => `(tactic| try simp only [dSeq, dAsg, dVar, dC, dOp, dUn, dB, dChain, dAnd, dOr, dNot, dAndV, dOrV, dNotV, dIf, dNil, dCons, dLst, dLstM, dTup, dCB, dNext, dExpr, dRet, dRetN, dFrz, dIfS, dAsgG, dPar2, dPar3, dUnp, dMeth, dCall, dSl, dPart, dNoPart, dRev, dIsN, dNotN, dIsi, dSetIx, dLRg1, dLRg2, aSortedI, aExt2, dGet, dIn, dPut, dDctM0, dDctM1, dSortSet, dGet2, sRngD, dStep, dReprL, asDs, aExtend, aIndex, aCount, aCountB, dLRgD, dLRgZ, dTry, dTryO, rCall, xRaise, endX, dIsx, dIsxT, aCmpD, sRngS, aSortD, dLenSc, dSortSc, dAug, dFor, dWhile, dLc, dLcM, lcUM, dNever, dBreak, dCont, dYes, dPick,
  aAdd, aSub, aDiv, aMod, aPow, aI, aIc, aB, aMul, aNeg, aEq, aNe, aBB, aIn, aIx, aLen, aMax, aMin, aAbs, aSum, aAll, aAny, aList, aTuple, aInt, aSorted, aRepr, aAppend, aPop, aPopAt, aReverse, aClear, nw, allD, isNone, sList, sTup, sRng1, sRng2, sEnum, sZip, gN, gN0, gN1, gT, startU, endsD, retD, wipeE, setAll, 
  List.map_cons, List.map_nil, List.length_cons, List.length_nil, List.cons_append, List.nil_append, List.replicate, List.getElem?_cons_zero, List.getElem?_cons_succ, List.set_cons_zero, List.set_cons_succ, Nat.reduceAdd, Nat.reduceSub, Nat.reduceLeDiff, Nat.zero_add, Nat.add_zero, List.take_length, if_true, if_false, decide_true, decide_false, Bool.false_eq_true, Bool.not_true, Bool.not_false, Option.isSome_some, Option.map_some, Option.map_none, Option.bind_some, List.append_nil, true_and, and_true, asI_map, asB_map, shE_i, shE_b, shE_n, shE_s, shE_l, shE_t, asL_r, asD_r, asD_v, asL_v, asQ_v, asQ_s, asS_v, asS_t, asS_s, asQ_r, asS_r])
/-! ### all chains, by depth -/
def sp_every (d : Nat) : ASp := fun us m Q => ∃ (u : U) (ns : List Int) (s e : Nat), us = [u, .v (.int (s : Int)), .v (.int (e : Int))] ∧ asL m u = some (ns.map .int) ∧ LogP ns ∧ ns.length ≤ 9 ∧ s < ns.length ∧ e ≤ s ∧ s ≤ e + d ∧ Q (.v (.list ((rowsN ns e s).map listD))) m
theorem many9 {ns : List Int} {e c : Nat} (h : c < 9) : cN ns e c ≤ 256 := by
  have h1 := cN_le (ns := ns) (e := e) c c (Nat.le_refl _)
  have h2 : 2 ^ c ≤ 2 ^ 8 := Nat.pow_le_pow_right (by decide) (by omega)
  omega
theorem ev_loop {d : Nat} {D : AEnds} {gd : Sto → Prop} {u : U} {ns : List Int} {e p : Nat} {m0 : Sto} (hgd : ∀ c, gd (m0 ++ [c])) (hu : asL m0 u = some (ns.map .int)) (hL : LogP ns) (hz : ns.length ≤ 9) (hp : p < ns.length) (hd : p ≤ e + (d + 1)) : ∀ (l : List Nat) (acc : List PyData) (x4 x5 : Option U), (∀ c ∈ l, e ≤ c ∧ c < p) →
    acc.length + l.length * 256 ≤ 100000 →
    (∀ x4 x5, D.nx [some u, some (.v (.int (p : Int))), some (.v (.int (e : Int))), some (.r m0.length), x4, x5] (m0 ++ [.lst (acc ++ (l.map fun c => (rowsN ns e c).map (List.cons p)).flatten.map listD)])) →
    forU gd (gN 4) (b1_law_every sp_law_next (sp_every d)) D (l.map fun (j : Nat) => U.v (.int (j : Int))) [some u, some (.v (.int (p : Int))), some (.v (.int (e : Int))), some (.r m0.length), x4, x5] (m0 ++ [.lst acc])
  | [], acc, x4, x5, hl, hn, h => by
    refine ⟨hgd _, ?_⟩
    have := h x4 x5
    simpa using this
  | c :: l, acc, x4, x5, hl, hn, h => by
    rw [List.map_cons]
    have hc := hl c List.mem_cons_self
    have hm := many9 (ns := ns) (e := e) (show c < 9 by omega)
    have hr := rowsN_len ns e c
    have eF : ∀ l : List PyData, (m0 ++ [Cell.lst l])[m0.length]? = some (.lst l) := fun l => by rw [List.getElem?_append_right (Nat.le_refl _)]; simp
    have eS : ∀ l l' : List PyData, (m0 ++ [Cell.lst l]).set m0.length (.lst l') = m0 ++ [.lst l'] := fun l l' => by rw [List.set_append_right _ _ (Nat.le_refl _)]; simp
    refine forU_step (fun E2 m2 => ∃ x4 x5, E2 = [some u, some (.v (.int (p : Int))), some (.v (.int (e : Int))), some (.r m0.length), x4, x5] ∧ m2 = m0 ++ [.lst (acc ++ ((rowsN ns e c).map (List.cons p)).map listD)]) (hgd _) ?_ ?_
    · rintro E2 m2 ⟨x4, x5, rfl, rfl⟩
      refine ev_loop hgd hu hL hz hp hd l _ x4 x5 (fun x hx => hl x (List.mem_cons_of_mem _ hx)) ?_ fun y4 y5 => ?_
      · rw [List.length_append, List.length_map, List.length_map, hr]
        rw [List.length_cons] at hn
        omega
      · have := h y4 y5
        rw [List.map_cons, List.flatten_cons, List.map_append, ← List.append_assoc] at this
        exact this
    intro J hJ
    unfold b1_law_every
    walk_at "ev"
    simp only [eF]
    refine ⟨rfl, u, ns, c, e, rfl, asL_app hu, hL, hz, by omega, hc.1, by omega, ?_⟩
    walk_at "ev"
    have em : ((rowsN ns e c).map listD).map U.v = (rowsN ns e c).map fun r => U.v (listD r) := by rw [List.map_map]; rfl
    rw [em]
    refine lcU_map (fun (r : List Nat) => U.v (listD r)) (fun _ => true) (fun r => listD (p :: r)) trivial (rowsN ns e c) [] (by simp; omega) (fun r hr K1 K2 q1 q2 => ?_) ?_
    · unfold listD
      walk_at "ev"
      have len : r.length ≤ 1000 := by
        unfold rowsN at hr
        obtain ⟨k, hk, rfl⟩ := List.mem_map.mp hr
        have := (ch_to hL (nth_ch c c k (Nat.le_refl _) hc.1 (List.mem_range.mp hk)) (by omega)).ln
        omega
      refine ⟨by decide, ?_, q1 rfl⟩
      rw [sizeLine_eq]
      unfold nats
      simp only [List.length_cons, List.length_map, List.length_nil]
      omega
    · rw [filter_true, List.nil_append]
      walk_at "ev"
      simp only [eF, eS]
      rw [List.length_cons] at hn
      refine ⟨by rw [List.length_map, hr, sizeLine_eq]; omega, ?_⟩
      refine hJ _ _ ⟨_, _, rfl, ?_⟩
      rw [List.map_map]
      rfl
theorem sem_every0 (us : List U) (m : Sto) (Q : QA) (h : sp_every 0 us m Q) : g_law_every sp_law_next (fun _ _ _ => False) (endsD m.length Q) (startU 6 us) m := by
  obtain ⟨u, ns, s, e, rfl, hu, hL, hz, hs, he, hd, q⟩ := h
  have c : s = e := by omega
  subst c
  unfold g_law_every
  walk_at "ev"
  simp only [eqv_ii, decide_true, if_true]
  rw [rowsN_end] at q
  exact ⟨by decide, by decide, q⟩
theorem sem_everyS (d : Nat) (us : List U) (m : Sto) (Q : QA) (h : sp_every (d + 1) us m Q) : g_law_every sp_law_next (sp_every d) (endsD m.length Q) (startU 6 us) m := by
  obtain ⟨u, ns, s, e, rfl, hu, hL, hz, hs, he, hd, q⟩ := h
  unfold g_law_every
  walk_at "ev"
  simp only [eqv_ii]
  by_cases c : s = e
  · subst c
    simp only [decide_true, if_true]
    rw [rowsN_end] at q
    exact ⟨by decide, by decide, q⟩
  · rw [decide_eq_false (by omega : ¬ ((s : Int) = (e : Int)))]
    walk_at "ev"
    refine ⟨by decide, u, ns, s, e, rfl, asL_app hu, hL, hs, fun l hl _ => ?_⟩
    rw [nx_eq hL hs (by omega) hl]
    walk_at "ev"
    have en : (nats (nxL ns s e)).map U.v = (nxL ns s e).map fun (k : Nat) => U.v (.int (k : Int)) := by unfold nats; rw [List.map_map]; rfl
    rw [en]
    have hn := nxL_len ns s e
    refine ev_loop (fun _ => trivial) hu hL hz hs (by omega) (nxL ns s e) [] _ _ (fun k hk => nxL_mem hL hs (by omega) hk) (by rw [List.length_nil]; omega) fun x4 x5 => ?_
    rw [← rowsN_go (show e < s by omega), List.nil_append]
    have eF : ∀ l : List PyData, (m ++ [Cell.lst l])[m.length]? = some (.lst l) := fun l => by rw [List.getElem?_append_right (Nat.le_refl _)]; simp
    walk_at "ev"
    simp only [eF]
    have et : ∀ a b : Cell, ((m ++ [a]).set m.length b).take m.length = m := fun a b => by simp
    rw [et]
    exact q
theorem rec_law_every {P : Program} {w : World} {K : PySem.W.Frag} {mg : Str → Option Value} {base : Heap} (d : Dfn K mg "_law_every" s_law_every ["links", "start", "end"]) (C_law_next : Cal P w K mg base 1 "_law_next" ["links", "entry", "end"] sp_law_next) : Cal P w K mg base 14 "_law_every" ["links", "start", "end"] (sp_every 12) := by
  have len : ∀ n us m Q, sp_every n us m Q → us.length = 3 := fun n us m Q h => by obtain ⟨_, _, _, _, rfl, _⟩ := h; rfl
  have fam : ∀ n : Nat, Cal P w K mg base (n + 2) "_law_every" ["links", "start", "end"] (sp_every n) := fun n => by
    induction n with
    | zero => exact ok_law_every (k := 1) d C_law_next (cal_none d) (Nat.le_refl _) (len 0) sem_every0
    | succ n ih => exact ok_law_every (k := n + 2) d C_law_next ih (by omega) (len (n + 1)) (sem_everyS n)
  exact fam 12
theorem step_lt0 {len : Nat} {c : Int} (hc : 1 ≤ c) {i : Nat} (h : i < stepN 0 len c) : 0 ≤ 0 + (i : Int) * c ∧ 0 + (i : Int) * c < len := by
  unfold stepN at h
  split at h
  · have h1 : (i : Int) ≤ ((len : Int) - 0 - 1) / c := by omega
    have h2 := Int.mul_le_mul_of_nonneg_right h1 (show 0 ≤ c by omega)
    have h3 := Int.ediv_mul_le ((len : Int) - 0 - 1) (show c ≠ 0 by omega)
    have h4 := Int.mul_nonneg (show (0 : Int) ≤ i by omega) (show 0 ≤ c by omega)
    omega
  · omega
theorem ch_sh {ns : List Int} (hL : LogP ns) {s e : Nat} {l : List Nat} (hs : s < ns.length) (h : ChN ns s e l) : Shw 8 1 2000 (.list (nats l)) := by
  have hz := hL.1.2.1
  have := h.ln
  rw [nats_ints]
  refine (Shw.ints (B := 8) 3 151 (by decide) (by decide) (by decide) (by rw [List.length_map]; omega) fun i hi => ?_).mono (Nat.le_refl _) (by decide)
  obtain ⟨j, hj, rfl⟩ := List.mem_map.mp hi
  have := h.rg j hj
  omega
/-! ### one row -/
section
variable {D : AEnds} {gd : Sto → Prop} {u : U} {ns : List Int} {e s k : Nat} {m0 : Sto} {kp : PyData}
theorem hkk (k : Nat) (h : k < 1000) : ReprX (.int (k : Int)) := (Shw.int (B := 8) 3 (by decide) (by decide) (by decide) (by omega)).x.ok (by decide) (by decide) (by decide)
theorem again_loop (hgd : ∀ m, gd m) (hR : ReprX (.list (ns.map .int))) (hu : asL m0 u = some (ns.map .int)) (hL : LogP ns) (hz : ns.length ≤ 9) (hs : s < ns.length) (he : e ≤ s) (hk : k < cN ns e s) : ∀ (us : List U) (t : Sto) (x6 x7 : Option U),
    (∀ x6 x7 t, D.nx [some u, some (.v (.int (s : Int))), some (.v (.int (e : Int))), some (.v (.list ((rowsN ns e s).map listD))), some (.v (.str (PyData.list (ns.map .int)).shown)), some (.v (.int (k : Int))), x6, x7] (m0 ++ t)) →
    forU gd (gN 6) (b1_law_right (sp_every 12) sp_count_chains sp_nth_chain_2 sp_chain_number_u) D us [some u, some (.v (.int (s : Int))), some (.v (.int (e : Int))), some (.v (.list ((rowsN ns e s).map listD))), some (.v (.str (PyData.list (ns.map .int)).shown)), some (.v (.int (k : Int))), x6, x7] (m0 ++ t)
  | [], t, x6, x7, h => ⟨hgd _, h _ _ _⟩
  | x :: us, t, x6, x7, h => by
    refine forU_step (fun E2 m2 => ∃ x6 x7 t, E2 = [some u, some (.v (.int (s : Int))), some (.v (.int (e : Int))), some (.v (.list ((rowsN ns e s).map listD))), some (.v (.str (PyData.list (ns.map .int)).shown)), some (.v (.int (k : Int))), x6, x7] ∧ m2 = m0 ++ t) (hgd _) ?_ ?_
    · rintro E2 m2 ⟨x6, x7, t, rfl, rfl⟩
      exact again_loop hgd hR hu hL hz hs he hk us t x6 x7 h
    intro J hJ
    have c1 := ch_to hL (nth_ch s s k (Nat.le_refl _) he hk) hs
    have r1 := rk_nth s s k (Nat.le_refl _) he hk
    have R1 := ch_ok hL hs c1
    have hm := many9 (ns := ns) (e := e) (show s < 9 by omega)
    have eF : ∀ l : List PyData, (m0 ++ t ++ [Cell.lst l])[(m0 ++ t).length]? = some (.lst l) := fun l => by rw [List.getElem?_append_right (Nat.le_refl _)]; simp
    have eA : ∀ l : List PyData, asL (m0 ++ t ++ [Cell.lst l]) (.r (m0 ++ t).length) = some l := fun l => by unfold asL; simp only [eF]
    have hu2 : ∀ x : Sto, asL (m0 ++ t ++ x) u = some (ns.map .int) := fun x => asL_app (asL_app hu)
    have e5 : atI ((rowsN ns e s).map listD) (k : Int) = some (listD (nthC ns e s k)) := by
      have hl : k < ((rowsN ns e s).map listD).length := by rw [List.length_map, rowsN_len]; exact hk
      rw [atI_at (by omega) (by omega), Int.toNat_natCast, List.getElem?_eq_getElem hl]
      simp [rowsN]
    unfold b1_law_right
    walk_at "ev"
    refine ⟨u, ns, s, e, k, rfl, asL_app hu, hL, hs, he, hk, ?_⟩
    walk_at "ev"
    refine aReprX_of (asD_of (eA _)) R1 ?_
    walk_at "ev"
    simp only [e5]
    refine aReprX_of rfl R1 ?_
    walk_at "ev"
    simp only [eqv_str, listD, decide_true]
    walk_at "ev"
    refine ⟨u, .r (m0 ++ t).length, ns, s, e, _, rfl, hu2 _, eA _, hL, hs, he, c1, ?_⟩
    rw [r1]
    walk_at "ev"
    refine aReprX_of rfl (hkk k (by omega)) ?_
    walk_at "ev"
    refine aReprX_of rfl (hkk k (by omega)) ?_
    walk_at "ev"
    simp only [eqv_str, decide_true]
    walk_at "ev"
    refine aReprX_of (asD_of (hu2 _)) hR ?_
    walk_at "ev"
    simp only [eqv_str, decide_true]
    walk_at "ev"
    simp only [eF]
    have eS : ∀ l l' : List PyData, (m0 ++ t ++ [Cell.lst l]).set (m0 ++ t).length (.lst l') = m0 ++ (t ++ [.lst l']) := fun l l' => by rw [List.set_append_right _ _ (Nat.le_refl _)]; simp
    rw [eS]
    refine ⟨rfl, ?_, hJ _ _ ⟨_, _, _, rfl, rfl⟩⟩
    have := c1.ln
    unfold nats
    rw [List.length_map, sizeLine_eq]
    omega
theorem num_loop9 (hgd : ∀ m, gd m) (hR : ReprX (.list (ns.map .int))) (hu : asL m0 u = some (ns.map .int)) (hL : LogP ns) (hz : ns.length ≤ 9) (hs : s < ns.length) (he : e ≤ s) : ∀ (is : List Int) (t : Sto) (x5 x6 x7 : Option U), (∀ i ∈ is, 0 ≤ i ∧ i < ((cN ns e s : Nat) : Int)) →
    (∀ x5 x6 x7 t, D.nx [some u, some (.v (.int (s : Int))), some (.v (.int (e : Int))), some (.v (.list ((rowsN ns e s).map listD))), some (.v (.str (PyData.list (ns.map .int)).shown)), x5, x6, x7] (m0 ++ t)) →
    forU gd (gN 5) (b2_law_right (sp_every 12) sp_count_chains sp_nth_chain_2 sp_chain_number_u) D (is.map fun i => U.v (.int i)) [some u, some (.v (.int (s : Int))), some (.v (.int (e : Int))), some (.v (.list ((rowsN ns e s).map listD))), some (.v (.str (PyData.list (ns.map .int)).shown)), x5, x6, x7] (m0 ++ t)
  | [], t, x5, x6, x7, _, h => ⟨hgd _, h _ _ _ _⟩
  | i :: is, t, x5, x6, x7, hi, h => by
    rw [List.map_cons]
    refine forU_step (fun E2 m2 => ∃ x5 x6 x7 t, E2 = [some u, some (.v (.int (s : Int))), some (.v (.int (e : Int))), some (.v (.list ((rowsN ns e s).map listD))), some (.v (.str (PyData.list (ns.map .int)).shown)), x5, x6, x7] ∧ m2 = m0 ++ t) (hgd _) ?_ ?_
    · rintro E2 m2 ⟨x5, x6, x7, t, rfl, rfl⟩
      exact num_loop9 hgd hR hu hL hz hs he is t x5 x6 x7 (fun j hj => hi j (List.mem_cons_of_mem _ hj)) h
    intro J hJ
    have h1 := hi i List.mem_cons_self
    obtain ⟨k, rfl⟩ : ∃ k : Nat, i = (k : Int) := ⟨i.toNat, by omega⟩
    unfold b2_law_right
    walk_at "ev"
    refine ⟨by decide, by decide, ?_⟩
    exact again_loop (k := k) (D := ⟨J, D.rt, D.nx, J⟩) (fun _ => trivial) hR hu hL hz hs he (by omega) _ t x6 x7 fun y6 y7 t' => hJ _ _ ⟨_, _, _, _, rfl, rfl⟩
end
def sp_law_right : ASp := fun us m Q => ∃ (u : U) (ns : List Int) (s e : Nat), us = [u, .v (.int (s : Int)), .v (.int (e : Int))] ∧ asL m u = some (ns.map .int) ∧ LogP ns ∧ ns.length ≤ 9 ∧ s < ns.length ∧ e ≤ s ∧ Q (.v (.bool true)) m
theorem sem_law_right (us : List U) (m : Sto) (Q : QA) (h : sp_law_right us m Q) : g_law_right (sp_every 12) sp_count_chains sp_nth_chain_2 sp_chain_number_u (endsD m.length Q) (startU 8 us) m := by
  obtain ⟨u, ns, s, e, rfl, hu, hL, hz, hs, he, q⟩ := h
  have hm := many9 (ns := ns) (e := e) (show s < 9 by omega)
  have hR : ReprX (.list (ns.map .int)) := (form_repr hL.1).x.ok (by decide) (by decide) (by decide)
  have row : ∀ d ∈ (rowsN ns e s).map listD, ∃ l : List Nat, d = .list ((l.map fun (n : Nat) => (n : Int)).map .int) ∧ Shw 8 1 2000 d := fun d hd => by
    obtain ⟨l, hl, rfl⟩ := List.mem_map.mp hd
    unfold rowsN at hl
    obtain ⟨k, hk, rfl⟩ := List.mem_map.mp hl
    have c1 := ch_to hL (nth_ch s s k (Nat.le_refl _) he (List.mem_range.mp hk)) hs
    exact ⟨_, by unfold listD; rw [nats_ints], ch_sh hL hs c1⟩
  have rl : ((rowsN ns e s).map listD).length = cN ns e s := by rw [List.length_map, rowsN_len]
  have S : Srt ((rowsN ns e s).map listD) := by
    refine ⟨fun d hd => ?_, fun d hd d' hd' => ?_, .inr fun d hd => ?_⟩
    · obtain ⟨l, rfl, r⟩ := row d hd
      exact ⟨r.shw, (r.x.ok (by decide) (by decide) (by decide)).2.2, Nat.le_trans r.dep (by decide)⟩
    · obtain ⟨l, rfl, r⟩ := row d hd
      obtain ⟨l', rfl, r'⟩ := row d' hd'
      rw [PySem.W.alike]; exact alike_ints _ _
    · obtain ⟨l, rfl, r⟩ := row d hd
      exact ⟨(fun z => by cases z), fun xs z => by cases z⟩
  unfold g_law_right
  walk_at "ev"
  refine ⟨u, ns, s, e, rfl, hu, hL, hz, hs, he, by omega, ?_⟩
  walk_at "ev"
  refine aReprX_of (asD_of hu) hR ?_
  walk_at "ev"
  refine ⟨S, fun l' pm pw => ?_⟩
  rw [perm_asc (rows_asc he) pm pw]
  walk_at "ev"
  have W : Shw 8 2 600000 (.list ((rowsN ns e s).map listD)) := (Shw.list (B := 8) (k := 1) (n := 2000) (L := 256) (fun d hd => by obtain ⟨l, _, r⟩ := row d hd; exact r) (by omega)).mono (Nat.le_refl _) (by decide)
  have W1 := W.shaped (by decide)
  have W2 : PyData.eqv (.list ((rowsN ns e s).map listD)) (.list ((rowsN ns e s).map listD)) = true := PySem.SeqAt.eqv_refl _ W.lay
  rw [rl, W2]
  refine ⟨W1, W1, ?_⟩
  walk_at "ev"
  refine ⟨u, ns, s, e, rfl, hu, hL, hs, he, ?_⟩
  walk_at "ev"
  refine aReprX_of rfl (hkk _ (by omega)) ?_
  walk_at "ev"
  refine aReprX_of rfl (hkk _ (by omega)) ?_
  walk_at "ev"
  simp only [eqv_str, decide_true]
  walk_at "ev"
  refine ⟨⟨by decide, .inl (by decide)⟩, ⟨by omega, by omega, by decide, by decide, by omega, by omega⟩, ?_⟩
  have eu : ∀ c n, upU 0 c n = ((List.range n).map fun (i : Nat) => 0 + (i : Int) * c).map fun s => U.v (.int s) := fun c n => by unfold upU; rw [List.map_map]; rfl
  rw [eu]
  have := num_loop9 (D := ⟨dRet (dC (PyData.bool true)) ⟨fun x m_1 => Q (U.v PyData.none) (List.take (List.length m) m_1), retD (List.length m) Q, fun _ _ => False, fun _ _ => False⟩, retD (List.length m) Q, fun _ _ => False, fun _ _ => False⟩) (gd := fun _ => True) (fun _ => trivial) hR hu hL hz hs he ((List.range (stepN 0 ((cN ns e s : Nat) : Int) (1 + ((cN ns e s : Nat) : Int) / 20))).map fun (i : Nat) => 0 + (i : Int) * (1 + ((cN ns e s : Nat) : Int) / 20)) [] none none none (fun i hi => ?_) fun x5 x6 x7 t => ?_
  · rw [List.append_nil] at this
    exact this
  · obtain ⟨j, hj, rfl⟩ := List.mem_map.mp hi
    exact step_lt0 (by omega) (List.mem_range.mp hj)
  · walk_at "ev"
    rw [List.take_left]
    exact q
/-! ### the law -/
theorem log_last {ns : List Int} (h : LogP ns) {n : Nat} (hn : ns.length = n + 1) : LogP (ns.set n 0) := by
  refine ⟨form_set h.1 (Int.le_refl _) (by omega), fun i j hij hj => ?_⟩
  rw [List.length_set] at hj
  have hi : (ns.set n 0).getD i 0 = ns.getD i 0 := by
    rw [List.getD_eq_getElem?_getD, List.getElem?_set_ne (by omega), ← List.getD_eq_getElem?_getD]
  rw [hi]
  have f1 := (h.1.2.2 i (by omega)).1
  by_cases z : j = n
  · subst z
    have : (ns.set j 0).getD j 0 = 0 := by
      rw [List.getD_eq_getElem?_getD, List.getElem?_set_self (by omega)]; rfl
    rw [this]
    omega
  · have hj2 : (ns.set n 0).getD j 0 = ns.getD j 0 := by
      rw [List.getD_eq_getElem?_getD, List.getElem?_set_ne (by omega), ← List.getD_eq_getElem?_getD]
    rw [hj2]
    exact h.2 i j hij hj
theorem t_body {D : AEnds} {V : Nat} {e0 e1 e3 : Option U} {T : Nat} (hT : T < 500000) {m : Sto} (hV : Vt V T m) (x4 x5 x6 x7 : Option U)
    (h : ∀ (m' : Sto) (x4 x5 x6 x7 : Option U), Vt V (T + 10000) m' → D.nx [e0, e1, some (.r V), e3, x4, x5, x6, x7] m') :
    b1_law sp_law_vat sp_law_drip sp_law_log_4 sp_law_range sp_law_right sp_count_chains sp_nth_chain_2 D [e0, e1, some (.r V), e3, x4, x5, x6, x7] m := by
  unfold b1_law
  walk_at "ev"
  refine ⟨V, T, 9, rfl, hV, by omega, ⟨by decide, .inl (by decide)⟩, fun r m1 g1 g2 gl1 gF1 hV1 => ?_⟩
  walk_at "ev"
  refine ⟨V, T + 1, 1 + r, rfl, hV1, by omega, by omega, by omega, fun ns m2 hL hl gl2 gF2 hV2 => ?_⟩
  walk_at "ev"
  obtain ⟨n, hn⟩ : ∃ n, ns.length = n + 1 := ⟨ns.length - 1, by omega⟩
  have hr : 1 + r = ((n + 1 : Nat) : Int) := by omega
  rw [hr]
  have lt : V < m1.length := hV1.lt
  have hVa : Vt V (T + 2001) (m2 ++ [Cell.lst (ns.map .int)]) := hV2.app
  refine ⟨V, _, n + 1, rfl, by omega, by omega, hVa, by omega, fun s e m3 he hs gl3 gF3 hV3 => ?_⟩
  have c3 : m3[m1.length]? = some (.lst (ns.map .int)) := by
    have := gF3.2.2 m1.length (by rw [List.length_append]; simp; omega) (by omega)
    rw [this, List.getElem?_append_right (by omega), gl2, Nat.sub_self]
    rfl
  have l3 : m3.length = m1.length + 1 := by rw [gl3, List.length_append]; simp; omega
  have a3 : asL m3 (.r m1.length) = some (ns.map .int) := by unfold asL; simp only [c3]
  walk_at "ev"
  refine ⟨_, ns, s, e, rfl, a3, hL, by omega, by omega, he, ?_⟩
  walk_at "ev"
  rw [show (((n + 1 : Nat) : Int) - 1) = ((n : Nat) : Int) by omega]
  refine ⟨_, ns, n, 0, rfl, a3, hL, by omega, by omega, by omega, ?_⟩
  walk_at "ev"
  simp only [c3]
  have ei : ixN (ns.map PyData.int).length ((n : Nat) : Int) = some n := by
    unfold ixN
    rw [List.length_map, hn]
    simp
    omega
  rw [ei]
  have es : (ns.map PyData.int).set n (.int 0) = (ns.set n 0).map .int := List.map_set.symm
  have a4 : asL (m3.set m1.length (.lst ((ns.set n 0).map .int))) (.r m1.length) = some ((ns.set n 0).map .int) := by
    have : (m3.set m1.length (Cell.lst ((ns.set n 0).map PyData.int)))[m1.length]? = some (.lst ((ns.set n 0).map .int)) := List.getElem?_set_self (by omega)
    unfold asL
    simp only [this]
  simp only [es]
  refine ⟨_, ns.set n 0, n, 0, rfl, a4, log_last hL hn, by rw [List.length_set]; omega, by rw [List.length_set]; omega, by omega, ?_⟩
  walk_at "ev"
  exact h _ _ _ _ _ ((hV3.set (by omega)).mono (by omega))
theorem t_loop {D : AEnds} {V : Nat} {e0 e1 : Option U} (h : ∀ (m' : Sto) (x3 x4 x5 x6 x7 : Option U), D.nx [e0, e1, some (.r V), x3, x4, x5, x6, x7] m') : ∀ (n a T : Nat) (m : Sto) (x3 x4 x5 x6 x7 : Option U),
    Vt V T m → T + 10000 * n < 500000 →
    forU (fun _ => True) (gN 3) (b1_law sp_law_vat sp_law_drip sp_law_log_4 sp_law_range sp_law_right sp_count_chains sp_nth_chain_2) D ((List.range' a n).map fun (j : Nat) => U.v (.int (j : Int))) [e0, e1, some (.r V), x3, x4, x5, x6, x7] m
  | 0, a, T, m, x3, x4, x5, x6, x7, _, _ => ⟨trivial, h _ _ _ _ _ _⟩
  | n + 1, a, T, m, x3, x4, x5, x6, x7, hV, hT => by
    rw [List.range'_succ, List.map_cons]
    refine forU_step (fun E2 m2 => Vt V (T + 10000) m2 ∧ ∃ x3 x4 x5 x6 x7, E2 = [e0, e1, some (.r V), x3, x4, x5, x6, x7]) trivial ?_ ?_
    · rintro E2 m2 ⟨hV2, y3, y4, y5, y6, y7, rfl⟩
      exact t_loop h n (a + 1) (T + 10000) m2 _ _ _ _ _ hV2 (by omega)
    intro J hJ
    simp only [gN, List.set_cons_succ, List.set_cons_zero]
    exact t_body (by omega) hV _ _ _ _ fun m' y4 y5 y6 y7 hV' => hJ _ _ ⟨hV', _, _, _, _, _, rfl⟩
theorem k_loop {D : AEnds} {e0 : U} {ns : List Int} (he : e0 = .s ns) (hD : ∀ x1 x2 x3 x4 x5 x6 x7 m, D.nx [some e0, x1, x2, x3, x4, x5, x6, x7] m) : ∀ (n a : Nat) (m : Sto) (x1 x2 x3 x4 x5 x6 x7 : Option U), a + n ≤ 10 →
    forU (fun _ => True) (gN 1) (b2_law sp_law_vat sp_law_drip sp_law_log_4 sp_law_range sp_law_right sp_count_chains sp_nth_chain_2) D ((List.range' a n).map fun (j : Nat) => U.v (.int (j : Int))) [some e0, x1, x2, x3, x4, x5, x6, x7] m
  | 0, a, m, x1, x2, x3, x4, x5, x6, x7, _ => ⟨trivial, hD _ _ _ _ _ _ _ _⟩
  | n + 1, a, m, x1, x2, x3, x4, x5, x6, x7, hn => by
    rw [List.range'_succ, List.map_cons]
    refine forU_step (fun E2 m2 => ∃ (x1 x2 x3 x4 x5 x6 x7 : Option U), E2 = [some e0, x1, x2, x3, x4, x5, x6, x7]) trivial ?_ ?_
    · rintro E2 m2 ⟨y1, y2, y3, y4, y5, y6, y7, rfl⟩
      exact k_loop he hD n (a + 1) m2 _ _ _ _ _ _ _ (by omega)
    intro J hJ
    subst he
    unfold b2_law
    walk_at "ev"
    refine ⟨ns, a, rfl, by omega, by omega, fun c hV => ?_⟩
    walk_at "ev"
    refine ⟨by decide, by decide, ?_⟩
    rw [show rngU 0 (3 : Int).toNat = (List.range' 0 3).map (fun (j : Nat) => U.v (.int (j : Int))) from rngU_nat 0 3]
    exact t_loop (fun m' y3 y4 y5 y6 y7 => hJ _ _ ⟨_, _, _, _, _, _, _, rfl⟩) 3 0 0 _ _ _ _ _ _ hV (by decide)
def lastL : List Int := [0, 0, 0, 2, 3, 2, 0]
theorem last_log : LogP lastL := (logI_iff _).mp (by decide)
theorem last_cn : cN lastL 0 5 = 4 := by
  simp [cN, lk, lastL]
theorem last_nth : nthC lastL 0 5 1 = [5, 2, 1, 0] := by
  simp [nthC, cN, lk, lastL]
theorem sem_law (us : List U) (m : Sto) (Q : QA) (h : spLaw us m Q) : g_law sp_law_vat sp_law_drip sp_law_log_4 sp_law_range sp_law_right sp_count_chains sp_nth_chain_2 (endsD m.length Q) (startU 8 us) m := by
  obtain ⟨ns, rfl, hl, hb, rfl, q⟩ := h
  unfold g_law
  walk_at "ev"
  simp only [List.length_map]
  generalize hk : (if (if (ns.length : Int) < 5 then (ns.length : Int) else 5) > 1 then if (ns.length : Int) < 5 then (ns.length : Int) else 5 else 1) = kk
  have h5 : 0 ≤ kk ∧ kk ≤ 5 := by rw [← hk]; constructor <;> split <;> split <;> omega
  refine ⟨by omega, by omega, ?_⟩
  rw [show rngU 0 kk.toNat = _ from rngU_nat 0 _]
  refine k_loop rfl (fun x1 x2 x3 x4 x5 x6 x7 m => ?_) _ _ _ _ _ _ _ _ _ _ (by omega)
  walk_at "ev"
  have eL : [PyData.int 0, .int 0, .int 0, .int 2, .int 3, .int 2, .int 0] = lastL.map .int := rfl
  rw [eL]
  have aL : asL (m ++ [Cell.lst (lastL.map .int)]) (.r m.length) = some (lastL.map .int) := by
    have : (m ++ [Cell.lst (lastL.map PyData.int)])[m.length]? = some (.lst (lastL.map .int)) := by rw [List.getElem?_append_right (Nat.le_refl _)]; simp
    unfold asL
    simp only [this]
  refine ⟨by decide, _, lastL, 5, 0, rfl, aL, last_log, by decide, by decide, ?_⟩
  rw [last_cn]
  refine ⟨rfl, rfl, ?_⟩
  rw [if_pos (by decide)]
  refine ⟨_, lastL, 5, 0, 1, rfl, aL, last_log, by decide, by decide, by rw [last_cn]; decide, ?_⟩
  rw [last_nth]
  have e2 : (m ++ [Cell.lst (lastL.map .int)] ++ [Cell.lst (nats [5, 2, 1, 0])])[(m ++ [Cell.lst (lastL.map PyData.int)]).length]? = some (.lst (nats [5, 2, 1, 0])) := by rw [List.getElem?_append_right (Nat.le_refl _)]; simp
  simp only [e2]
  have e3 : nats [5, 2, 1, 0] = ([5, 2, 1, 0] : List Int).map .int := rfl
  refine ⟨by decide, by rw [e3]; exact shaped_ll _, shaped_ll [5, 2, 1, 0], ?_⟩
  rw [e3, show PyData.list [PyData.int 5, .int 2, .int 1, .int 0] = .list (([5, 2, 1, 0] : List Int).map .int) from rfl, eqv_ll, decide_eq_true rfl]
  exact q
end Z.K09
/-! printed by gen.py: the end of law_k09_chains_counted_and_numbered -/
namespace Z.K09
open PySem PySem.Spec PyProof.Rows L2 Z Z.P
theorem fin {P : Program} {w : World} {K : PySem.W.Frag} {h : Heap} {mg : Str → Option Value} {f_is_integer f_have_form f_least_crossing f_is_log f_need_log f_need_entry f_need_range f_is_chain_of f_need_chain f_next_entries f_numbers_to f_count_chains f_nth_chain f_chain_number f_law_vat f_law_drip f_law_log f_law_next f_law_range f_law_every f_law_right f_law : Addr} (X : K.In h) (G : h.Ns mainGlobals mg)
    {od_is_integer an_is_integer : Option Addr} {sl_is_integer : Array (Option Value)} {oc_is_integer kV_is_integer dc_is_integer pm_is_integer cd_is_integer ct_is_integer : Value}
    (a_is_integer : PySem.W.nsIn K mainGlobals "is_integer" = some (some (.ref f_is_integer))) (l_is_integer : K.lookup f_is_integer = some ⟨oc_is_integer, od_is_integer, .func (PySem.W.fnOf "is_integer" "is_integer" (defArgs s_is_integer) (defBody s_is_integer) (defScope s_is_integer) .none kV_is_integer dc_is_integer pm_is_integer an_is_integer cd_is_integer ct_is_integer), sl_is_integer⟩) (c_is_integer : PySem.W.codeIn K cd_is_integer "is_integer" = true) (k_is_integer : PySem.W.keepIn K (.ref f_is_integer) = true)
    {od_have_form an_have_form : Option Addr} {sl_have_form : Array (Option Value)} {oc_have_form kV_have_form dc_have_form pm_have_form cd_have_form ct_have_form : Value}
    (a_have_form : PySem.W.nsIn K mainGlobals "have_form" = some (some (.ref f_have_form))) (l_have_form : K.lookup f_have_form = some ⟨oc_have_form, od_have_form, .func (PySem.W.fnOf "have_form" "have_form" (defArgs s_have_form) (defBody s_have_form) (defScope s_have_form) .none kV_have_form dc_have_form pm_have_form an_have_form cd_have_form ct_have_form), sl_have_form⟩) (c_have_form : PySem.W.codeIn K cd_have_form "have_form" = true) (k_have_form : PySem.W.keepIn K (.ref f_have_form) = true)
    {od_least_crossing an_least_crossing : Option Addr} {sl_least_crossing : Array (Option Value)} {oc_least_crossing kV_least_crossing dc_least_crossing pm_least_crossing cd_least_crossing ct_least_crossing : Value}
    (a_least_crossing : PySem.W.nsIn K mainGlobals "least_crossing" = some (some (.ref f_least_crossing))) (l_least_crossing : K.lookup f_least_crossing = some ⟨oc_least_crossing, od_least_crossing, .func (PySem.W.fnOf "least_crossing" "least_crossing" (defArgs s_least_crossing) (defBody s_least_crossing) (defScope s_least_crossing) .none kV_least_crossing dc_least_crossing pm_least_crossing an_least_crossing cd_least_crossing ct_least_crossing), sl_least_crossing⟩) (c_least_crossing : PySem.W.codeIn K cd_least_crossing "least_crossing" = true) (k_least_crossing : PySem.W.keepIn K (.ref f_least_crossing) = true)
    {od_is_log an_is_log : Option Addr} {sl_is_log : Array (Option Value)} {oc_is_log kV_is_log dc_is_log pm_is_log cd_is_log ct_is_log : Value}
    (a_is_log : PySem.W.nsIn K mainGlobals "is_log" = some (some (.ref f_is_log))) (l_is_log : K.lookup f_is_log = some ⟨oc_is_log, od_is_log, .func (PySem.W.fnOf "is_log" "is_log" (defArgs s_is_log) (defBody s_is_log) (defScope s_is_log) .none kV_is_log dc_is_log pm_is_log an_is_log cd_is_log ct_is_log), sl_is_log⟩) (c_is_log : PySem.W.codeIn K cd_is_log "is_log" = true) (k_is_log : PySem.W.keepIn K (.ref f_is_log) = true)
    {od_need_log an_need_log : Option Addr} {sl_need_log : Array (Option Value)} {oc_need_log kV_need_log dc_need_log pm_need_log cd_need_log ct_need_log : Value}
    (a_need_log : PySem.W.nsIn K mainGlobals "need_log" = some (some (.ref f_need_log))) (l_need_log : K.lookup f_need_log = some ⟨oc_need_log, od_need_log, .func (PySem.W.fnOf "need_log" "need_log" (defArgs s_need_log) (defBody s_need_log) (defScope s_need_log) .none kV_need_log dc_need_log pm_need_log an_need_log cd_need_log ct_need_log), sl_need_log⟩) (c_need_log : PySem.W.codeIn K cd_need_log "need_log" = true) (k_need_log : PySem.W.keepIn K (.ref f_need_log) = true)
    {od_need_entry an_need_entry : Option Addr} {sl_need_entry : Array (Option Value)} {oc_need_entry kV_need_entry dc_need_entry pm_need_entry cd_need_entry ct_need_entry : Value}
    (a_need_entry : PySem.W.nsIn K mainGlobals "need_entry" = some (some (.ref f_need_entry))) (l_need_entry : K.lookup f_need_entry = some ⟨oc_need_entry, od_need_entry, .func (PySem.W.fnOf "need_entry" "need_entry" (defArgs s_need_entry) (defBody s_need_entry) (defScope s_need_entry) .none kV_need_entry dc_need_entry pm_need_entry an_need_entry cd_need_entry ct_need_entry), sl_need_entry⟩) (c_need_entry : PySem.W.codeIn K cd_need_entry "need_entry" = true) (k_need_entry : PySem.W.keepIn K (.ref f_need_entry) = true)
    {od_need_range an_need_range : Option Addr} {sl_need_range : Array (Option Value)} {oc_need_range kV_need_range dc_need_range pm_need_range cd_need_range ct_need_range : Value}
    (a_need_range : PySem.W.nsIn K mainGlobals "need_range" = some (some (.ref f_need_range))) (l_need_range : K.lookup f_need_range = some ⟨oc_need_range, od_need_range, .func (PySem.W.fnOf "need_range" "need_range" (defArgs s_need_range) (defBody s_need_range) (defScope s_need_range) .none kV_need_range dc_need_range pm_need_range an_need_range cd_need_range ct_need_range), sl_need_range⟩) (c_need_range : PySem.W.codeIn K cd_need_range "need_range" = true) (k_need_range : PySem.W.keepIn K (.ref f_need_range) = true)
    {od_is_chain_of an_is_chain_of : Option Addr} {sl_is_chain_of : Array (Option Value)} {oc_is_chain_of kV_is_chain_of dc_is_chain_of pm_is_chain_of cd_is_chain_of ct_is_chain_of : Value}
    (a_is_chain_of : PySem.W.nsIn K mainGlobals "is_chain_of" = some (some (.ref f_is_chain_of))) (l_is_chain_of : K.lookup f_is_chain_of = some ⟨oc_is_chain_of, od_is_chain_of, .func (PySem.W.fnOf "is_chain_of" "is_chain_of" (defArgs s_is_chain_of) (defBody s_is_chain_of) (defScope s_is_chain_of) .none kV_is_chain_of dc_is_chain_of pm_is_chain_of an_is_chain_of cd_is_chain_of ct_is_chain_of), sl_is_chain_of⟩) (c_is_chain_of : PySem.W.codeIn K cd_is_chain_of "is_chain_of" = true) (k_is_chain_of : PySem.W.keepIn K (.ref f_is_chain_of) = true)
    {od_need_chain an_need_chain : Option Addr} {sl_need_chain : Array (Option Value)} {oc_need_chain kV_need_chain dc_need_chain pm_need_chain cd_need_chain ct_need_chain : Value}
    (a_need_chain : PySem.W.nsIn K mainGlobals "need_chain" = some (some (.ref f_need_chain))) (l_need_chain : K.lookup f_need_chain = some ⟨oc_need_chain, od_need_chain, .func (PySem.W.fnOf "need_chain" "need_chain" (defArgs s_need_chain) (defBody s_need_chain) (defScope s_need_chain) .none kV_need_chain dc_need_chain pm_need_chain an_need_chain cd_need_chain ct_need_chain), sl_need_chain⟩) (c_need_chain : PySem.W.codeIn K cd_need_chain "need_chain" = true) (k_need_chain : PySem.W.keepIn K (.ref f_need_chain) = true)
    {od_next_entries an_next_entries : Option Addr} {sl_next_entries : Array (Option Value)} {oc_next_entries kV_next_entries dc_next_entries pm_next_entries cd_next_entries ct_next_entries : Value}
    (a_next_entries : PySem.W.nsIn K mainGlobals "next_entries" = some (some (.ref f_next_entries))) (l_next_entries : K.lookup f_next_entries = some ⟨oc_next_entries, od_next_entries, .func (PySem.W.fnOf "next_entries" "next_entries" (defArgs s_next_entries) (defBody s_next_entries) (defScope s_next_entries) .none kV_next_entries dc_next_entries pm_next_entries an_next_entries cd_next_entries ct_next_entries), sl_next_entries⟩) (c_next_entries : PySem.W.codeIn K cd_next_entries "next_entries" = true) (k_next_entries : PySem.W.keepIn K (.ref f_next_entries) = true)
    {od_numbers_to an_numbers_to : Option Addr} {sl_numbers_to : Array (Option Value)} {oc_numbers_to kV_numbers_to dc_numbers_to pm_numbers_to cd_numbers_to ct_numbers_to : Value}
    (a_numbers_to : PySem.W.nsIn K mainGlobals "numbers_to" = some (some (.ref f_numbers_to))) (l_numbers_to : K.lookup f_numbers_to = some ⟨oc_numbers_to, od_numbers_to, .func (PySem.W.fnOf "numbers_to" "numbers_to" (defArgs s_numbers_to) (defBody s_numbers_to) (defScope s_numbers_to) .none kV_numbers_to dc_numbers_to pm_numbers_to an_numbers_to cd_numbers_to ct_numbers_to), sl_numbers_to⟩) (c_numbers_to : PySem.W.codeIn K cd_numbers_to "numbers_to" = true) (k_numbers_to : PySem.W.keepIn K (.ref f_numbers_to) = true)
    {od_count_chains an_count_chains : Option Addr} {sl_count_chains : Array (Option Value)} {oc_count_chains kV_count_chains dc_count_chains pm_count_chains cd_count_chains ct_count_chains : Value}
    (a_count_chains : PySem.W.nsIn K mainGlobals "count_chains" = some (some (.ref f_count_chains))) (l_count_chains : K.lookup f_count_chains = some ⟨oc_count_chains, od_count_chains, .func (PySem.W.fnOf "count_chains" "count_chains" (defArgs s_count_chains) (defBody s_count_chains) (defScope s_count_chains) .none kV_count_chains dc_count_chains pm_count_chains an_count_chains cd_count_chains ct_count_chains), sl_count_chains⟩) (c_count_chains : PySem.W.codeIn K cd_count_chains "count_chains" = true) (k_count_chains : PySem.W.keepIn K (.ref f_count_chains) = true)
    {od_nth_chain an_nth_chain : Option Addr} {sl_nth_chain : Array (Option Value)} {oc_nth_chain kV_nth_chain dc_nth_chain pm_nth_chain cd_nth_chain ct_nth_chain : Value}
    (a_nth_chain : PySem.W.nsIn K mainGlobals "nth_chain" = some (some (.ref f_nth_chain))) (l_nth_chain : K.lookup f_nth_chain = some ⟨oc_nth_chain, od_nth_chain, .func (PySem.W.fnOf "nth_chain" "nth_chain" (defArgs s_nth_chain) (defBody s_nth_chain) (defScope s_nth_chain) .none kV_nth_chain dc_nth_chain pm_nth_chain an_nth_chain cd_nth_chain ct_nth_chain), sl_nth_chain⟩) (c_nth_chain : PySem.W.codeIn K cd_nth_chain "nth_chain" = true) (k_nth_chain : PySem.W.keepIn K (.ref f_nth_chain) = true)
    {od_chain_number an_chain_number : Option Addr} {sl_chain_number : Array (Option Value)} {oc_chain_number kV_chain_number dc_chain_number pm_chain_number cd_chain_number ct_chain_number : Value}
    (a_chain_number : PySem.W.nsIn K mainGlobals "chain_number" = some (some (.ref f_chain_number))) (l_chain_number : K.lookup f_chain_number = some ⟨oc_chain_number, od_chain_number, .func (PySem.W.fnOf "chain_number" "chain_number" (defArgs s_chain_number) (defBody s_chain_number) (defScope s_chain_number) .none kV_chain_number dc_chain_number pm_chain_number an_chain_number cd_chain_number ct_chain_number), sl_chain_number⟩) (c_chain_number : PySem.W.codeIn K cd_chain_number "chain_number" = true) (k_chain_number : PySem.W.keepIn K (.ref f_chain_number) = true)
    {od_law_vat an_law_vat : Option Addr} {sl_law_vat : Array (Option Value)} {oc_law_vat kV_law_vat dc_law_vat pm_law_vat cd_law_vat ct_law_vat : Value}
    (a_law_vat : PySem.W.nsIn K mainGlobals "_law_vat" = some (some (.ref f_law_vat))) (l_law_vat : K.lookup f_law_vat = some ⟨oc_law_vat, od_law_vat, .func (PySem.W.fnOf "_law_vat" "_law_vat" (defArgs s_law_vat) (defBody s_law_vat) (defScope s_law_vat) .none kV_law_vat dc_law_vat pm_law_vat an_law_vat cd_law_vat ct_law_vat), sl_law_vat⟩) (c_law_vat : PySem.W.codeIn K cd_law_vat "_law_vat" = true) (k_law_vat : PySem.W.keepIn K (.ref f_law_vat) = true)
    {od_law_drip an_law_drip : Option Addr} {sl_law_drip : Array (Option Value)} {oc_law_drip kV_law_drip dc_law_drip pm_law_drip cd_law_drip ct_law_drip : Value}
    (a_law_drip : PySem.W.nsIn K mainGlobals "_law_drip" = some (some (.ref f_law_drip))) (l_law_drip : K.lookup f_law_drip = some ⟨oc_law_drip, od_law_drip, .func (PySem.W.fnOf "_law_drip" "_law_drip" (defArgs s_law_drip) (defBody s_law_drip) (defScope s_law_drip) .none kV_law_drip dc_law_drip pm_law_drip an_law_drip cd_law_drip ct_law_drip), sl_law_drip⟩) (c_law_drip : PySem.W.codeIn K cd_law_drip "_law_drip" = true) (k_law_drip : PySem.W.keepIn K (.ref f_law_drip) = true)
    {od_law_log an_law_log : Option Addr} {sl_law_log : Array (Option Value)} {oc_law_log kV_law_log dc_law_log pm_law_log cd_law_log ct_law_log : Value}
    (a_law_log : PySem.W.nsIn K mainGlobals "_law_log" = some (some (.ref f_law_log))) (l_law_log : K.lookup f_law_log = some ⟨oc_law_log, od_law_log, .func (PySem.W.fnOf "_law_log" "_law_log" (defArgs s_law_log) (defBody s_law_log) (defScope s_law_log) .none kV_law_log dc_law_log pm_law_log an_law_log cd_law_log ct_law_log), sl_law_log⟩) (c_law_log : PySem.W.codeIn K cd_law_log "_law_log" = true) (k_law_log : PySem.W.keepIn K (.ref f_law_log) = true)
    {od_law_next an_law_next : Option Addr} {sl_law_next : Array (Option Value)} {oc_law_next kV_law_next dc_law_next pm_law_next cd_law_next ct_law_next : Value}
    (a_law_next : PySem.W.nsIn K mainGlobals "_law_next" = some (some (.ref f_law_next))) (l_law_next : K.lookup f_law_next = some ⟨oc_law_next, od_law_next, .func (PySem.W.fnOf "_law_next" "_law_next" (defArgs s_law_next) (defBody s_law_next) (defScope s_law_next) .none kV_law_next dc_law_next pm_law_next an_law_next cd_law_next ct_law_next), sl_law_next⟩) (c_law_next : PySem.W.codeIn K cd_law_next "_law_next" = true) (k_law_next : PySem.W.keepIn K (.ref f_law_next) = true)
    {od_law_range an_law_range : Option Addr} {sl_law_range : Array (Option Value)} {oc_law_range kV_law_range dc_law_range pm_law_range cd_law_range ct_law_range : Value}
    (a_law_range : PySem.W.nsIn K mainGlobals "_law_range" = some (some (.ref f_law_range))) (l_law_range : K.lookup f_law_range = some ⟨oc_law_range, od_law_range, .func (PySem.W.fnOf "_law_range" "_law_range" (defArgs s_law_range) (defBody s_law_range) (defScope s_law_range) .none kV_law_range dc_law_range pm_law_range an_law_range cd_law_range ct_law_range), sl_law_range⟩) (c_law_range : PySem.W.codeIn K cd_law_range "_law_range" = true) (k_law_range : PySem.W.keepIn K (.ref f_law_range) = true)
    {od_law_every an_law_every : Option Addr} {sl_law_every : Array (Option Value)} {oc_law_every kV_law_every dc_law_every pm_law_every cd_law_every ct_law_every : Value}
    (a_law_every : PySem.W.nsIn K mainGlobals "_law_every" = some (some (.ref f_law_every))) (l_law_every : K.lookup f_law_every = some ⟨oc_law_every, od_law_every, .func (PySem.W.fnOf "_law_every" "_law_every" (defArgs s_law_every) (defBody s_law_every) (defScope s_law_every) .none kV_law_every dc_law_every pm_law_every an_law_every cd_law_every ct_law_every), sl_law_every⟩) (c_law_every : PySem.W.codeIn K cd_law_every "_law_every" = true) (k_law_every : PySem.W.keepIn K (.ref f_law_every) = true)
    {od_law_right an_law_right : Option Addr} {sl_law_right : Array (Option Value)} {oc_law_right kV_law_right dc_law_right pm_law_right cd_law_right ct_law_right : Value}
    (a_law_right : PySem.W.nsIn K mainGlobals "_law_right" = some (some (.ref f_law_right))) (l_law_right : K.lookup f_law_right = some ⟨oc_law_right, od_law_right, .func (PySem.W.fnOf "_law_right" "_law_right" (defArgs s_law_right) (defBody s_law_right) (defScope s_law_right) .none kV_law_right dc_law_right pm_law_right an_law_right cd_law_right ct_law_right), sl_law_right⟩) (c_law_right : PySem.W.codeIn K cd_law_right "_law_right" = true) (k_law_right : PySem.W.keepIn K (.ref f_law_right) = true)
    {od_law an_law : Option Addr} {sl_law : Array (Option Value)} {oc_law kV_law dc_law pm_law cd_law ct_law : Value}
    (a_law : PySem.W.nsIn K mainGlobals "law" = some (some (.ref f_law))) (l_law : K.lookup f_law = some ⟨oc_law, od_law, .func (PySem.W.fnOf "law" "law" (defArgs s_law) (defBody s_law) (defScope s_law) .none kV_law dc_law pm_law an_law cd_law ct_law), sl_law⟩) (c_law : PySem.W.codeIn K cd_law "law" = true) (k_law : PySem.W.keepIn K (.ref f_law) = true)
    (z_abs : PySem.W.nsIn K mainGlobals "abs" = some none)
    (z_all : PySem.W.nsIn K mainGlobals "all" = some none)
    (z_bool : PySem.W.nsIn K mainGlobals "bool" = some none)
    (z_enumerate : PySem.W.nsIn K mainGlobals "enumerate" = some none)
    (z_int : PySem.W.nsIn K mainGlobals "int" = some none)
    (z_isinstance : PySem.W.nsIn K mainGlobals "isinstance" = some none)
    (z_len : PySem.W.nsIn K mainGlobals "len" = some none)
    (z_list : PySem.W.nsIn K mainGlobals "list" = some none)
    (z_max : PySem.W.nsIn K mainGlobals "max" = some none)
    (z_min : PySem.W.nsIn K mainGlobals "min" = some none)
    (z_range : PySem.W.nsIn K mainGlobals "range" = some none)
    (z_repr : PySem.W.nsIn K mainGlobals "repr" = some none)
    (z_set : PySem.W.nsIn K mainGlobals "set" = some none)
    (z_sorted : PySem.W.nsIn K mainGlobals "sorted" = some none)
    (z_sum : PySem.W.nsIn K mainGlobals "sum" = some none)
    (z_zip : PySem.W.nsIn K mainGlobals "zip" = some none)
    {t_MOST_ENTRIES : _} (q_MOST_ENTRIES : PySem.W.nsIn K mainGlobals "MOST_ENTRIES" = some (some (.int 150 t_MOST_ENTRIES)))
    (base : Heap) : Cal P w K mg base 16 "law" ["script"] spLaw := by
  have n_abs : mg "abs" = none := PySem.W.mg_none_of X G z_abs
  have n_all : mg "all" = none := PySem.W.mg_none_of X G z_all
  have n_bool : mg "bool" = none := PySem.W.mg_none_of X G z_bool
  have n_enumerate : mg "enumerate" = none := PySem.W.mg_none_of X G z_enumerate
  have n_int : mg "int" = none := PySem.W.mg_none_of X G z_int
  have n_isinstance : mg "isinstance" = none := PySem.W.mg_none_of X G z_isinstance
  have n_len : mg "len" = none := PySem.W.mg_none_of X G z_len
  have n_list : mg "list" = none := PySem.W.mg_none_of X G z_list
  have n_max : mg "max" = none := PySem.W.mg_none_of X G z_max
  have n_min : mg "min" = none := PySem.W.mg_none_of X G z_min
  have n_range : mg "range" = none := PySem.W.mg_none_of X G z_range
  have n_repr : mg "repr" = none := PySem.W.mg_none_of X G z_repr
  have n_set : mg "set" = none := PySem.W.mg_none_of X G z_set
  have n_sorted : mg "sorted" = none := PySem.W.mg_none_of X G z_sorted
  have n_sum : mg "sum" = none := PySem.W.mg_none_of X G z_sum
  have n_zip : mg "zip" = none := PySem.W.mg_none_of X G z_zip
  have p_MOST_ENTRIES := PySem.W.mg_of X G q_MOST_ENTRIES
  have D_is_integer := Dfn.mk' (x := "is_integer") (st := s_is_integer) (ps := ["value", "low", "high"]) X G a_is_integer l_is_integer c_is_integer k_is_integer (fun _ _ _ _ _ _ us hl => match us, hl with | [_, _, _], _ => rfl)
  have C_is_integer := ok_is_integer (P := P) (w := w) (base := base) D_is_integer n_isinstance n_int n_bool (by intro us m Q h; first | (obtain ⟨rfl, _⟩ := h; rfl) | (obtain ⟨_, rfl, _⟩ := h; rfl) | (obtain ⟨_, _, rfl, _⟩ := h; rfl) | (obtain ⟨_, _, _, rfl, _⟩ := h; rfl) | (obtain ⟨_, _, _, _, rfl, _⟩ := h; rfl) | (obtain ⟨_, _, _, _, _, rfl, _⟩ := h; rfl) | (obtain ⟨_, _, _, _, _, _, rfl, _⟩ := h; rfl) | (obtain ⟨_, _, _, _, _, _, _, rfl, _⟩ := h; rfl) | (obtain ⟨_, _, _, _, _, _, _, _, rfl, _⟩ := h; rfl)) sem_is_integer
  have D_least_crossing := Dfn.mk' (x := "least_crossing") (st := s_least_crossing) (ps := ["links"]) X G a_least_crossing l_least_crossing c_least_crossing k_least_crossing (fun _ _ _ _ _ _ us hl => match us, hl with | [_], _ => rfl)
  have C_least_crossing := ok_least_crossing (P := P) (w := w) (base := base) D_least_crossing n_enumerate n_len n_range (by intro us m Q h; first | (obtain ⟨rfl, _⟩ := h; rfl) | (obtain ⟨_, rfl, _⟩ := h; rfl) | (obtain ⟨_, _, rfl, _⟩ := h; rfl) | (obtain ⟨_, _, _, rfl, _⟩ := h; rfl) | (obtain ⟨_, _, _, _, rfl, _⟩ := h; rfl) | (obtain ⟨_, _, _, _, _, rfl, _⟩ := h; rfl) | (obtain ⟨_, _, _, _, _, _, rfl, _⟩ := h; rfl) | (obtain ⟨_, _, _, _, _, _, _, rfl, _⟩ := h; rfl) | (obtain ⟨_, _, _, _, _, _, _, _, rfl, _⟩ := h; rfl)) sem_least_crossing
  have D_next_entries := Dfn.mk' (x := "next_entries") (st := s_next_entries) (ps := ["links", "entry", "end"]) X G a_next_entries l_next_entries c_next_entries k_next_entries (fun _ _ _ _ _ _ us hl => match us, hl with | [_, _, _], _ => rfl)
  have C_next_entries := ok_next_entries (P := P) (w := w) (base := base) D_next_entries n_sorted (by intro us m Q h; first | (obtain ⟨rfl, _⟩ := h; rfl) | (obtain ⟨_, rfl, _⟩ := h; rfl) | (obtain ⟨_, _, rfl, _⟩ := h; rfl) | (obtain ⟨_, _, _, rfl, _⟩ := h; rfl) | (obtain ⟨_, _, _, _, rfl, _⟩ := h; rfl) | (obtain ⟨_, _, _, _, _, rfl, _⟩ := h; rfl) | (obtain ⟨_, _, _, _, _, _, rfl, _⟩ := h; rfl) | (obtain ⟨_, _, _, _, _, _, _, rfl, _⟩ := h; rfl) | (obtain ⟨_, _, _, _, _, _, _, _, rfl, _⟩ := h; rfl)) sem_next_entries
  have D_law_vat := Dfn.mk' (x := "_law_vat") (st := s_law_vat) (ps := ["script", "k"]) X G a_law_vat l_law_vat c_law_vat k_law_vat (fun _ _ _ _ _ _ us hl => match us, hl with | [_, _], _ => rfl)
  have C_law_vat := ok_law_vat (P := P) (w := w) (base := base) D_law_vat n_len n_abs n_max (by intro us m Q h; first | (obtain ⟨rfl, _⟩ := h; rfl) | (obtain ⟨_, rfl, _⟩ := h; rfl) | (obtain ⟨_, _, rfl, _⟩ := h; rfl) | (obtain ⟨_, _, _, rfl, _⟩ := h; rfl) | (obtain ⟨_, _, _, _, rfl, _⟩ := h; rfl) | (obtain ⟨_, _, _, _, _, rfl, _⟩ := h; rfl) | (obtain ⟨_, _, _, _, _, _, rfl, _⟩ := h; rfl) | (obtain ⟨_, _, _, _, _, _, _, rfl, _⟩ := h; rfl) | (obtain ⟨_, _, _, _, _, _, _, _, rfl, _⟩ := h; rfl)) sem_law_vat
  have D_law_drip := Dfn.mk' (x := "_law_drip") (st := s_law_drip) (ps := ["vat", "many"]) X G a_law_drip l_law_drip c_law_drip k_law_drip (fun _ _ _ _ _ _ us hl => match us, hl with | [_, _], _ => rfl)
  have C_law_drip := ok_law_drip (P := P) (w := w) (base := base) D_law_drip  (by intro us m Q h; first | (obtain ⟨rfl, _⟩ := h; rfl) | (obtain ⟨_, rfl, _⟩ := h; rfl) | (obtain ⟨_, _, rfl, _⟩ := h; rfl) | (obtain ⟨_, _, _, rfl, _⟩ := h; rfl) | (obtain ⟨_, _, _, _, rfl, _⟩ := h; rfl) | (obtain ⟨_, _, _, _, _, rfl, _⟩ := h; rfl) | (obtain ⟨_, _, _, _, _, _, rfl, _⟩ := h; rfl) | (obtain ⟨_, _, _, _, _, _, _, rfl, _⟩ := h; rfl) | (obtain ⟨_, _, _, _, _, _, _, _, rfl, _⟩ := h; rfl)) sem_law_drip
  have D_law_next := Dfn.mk' (x := "_law_next") (st := s_law_next) (ps := ["links", "entry", "end"]) X G a_law_next l_law_next c_law_next k_law_next (fun _ _ _ _ _ _ us hl => match us, hl with | [_, _, _], _ => rfl)
  have C_law_next := ok_law_next (P := P) (w := w) (base := base) D_law_next n_sorted n_set (by intro us m Q h; first | (obtain ⟨rfl, _⟩ := h; rfl) | (obtain ⟨_, rfl, _⟩ := h; rfl) | (obtain ⟨_, _, rfl, _⟩ := h; rfl) | (obtain ⟨_, _, _, rfl, _⟩ := h; rfl) | (obtain ⟨_, _, _, _, rfl, _⟩ := h; rfl) | (obtain ⟨_, _, _, _, _, rfl, _⟩ := h; rfl) | (obtain ⟨_, _, _, _, _, _, rfl, _⟩ := h; rfl) | (obtain ⟨_, _, _, _, _, _, _, rfl, _⟩ := h; rfl) | (obtain ⟨_, _, _, _, _, _, _, _, rfl, _⟩ := h; rfl)) sem_law_next
  have D_have_form := Dfn.mk' (x := "have_form") (st := s_have_form) (ps := ["value"]) X G a_have_form l_have_form c_have_form k_have_form (fun _ _ _ _ _ _ us hl => match us, hl with | [_], _ => rfl)
  have C_have_form := ok_have_form (P := P) (w := w) (base := base) D_have_form C_is_integer n_isinstance n_list n_len n_enumerate n_max n_all ⟨_, p_MOST_ENTRIES⟩ (by intro us m Q h; first | (obtain ⟨rfl, _⟩ := h; rfl) | (obtain ⟨_, rfl, _⟩ := h; rfl) | (obtain ⟨_, _, rfl, _⟩ := h; rfl) | (obtain ⟨_, _, _, rfl, _⟩ := h; rfl) | (obtain ⟨_, _, _, _, rfl, _⟩ := h; rfl) | (obtain ⟨_, _, _, _, _, rfl, _⟩ := h; rfl) | (obtain ⟨_, _, _, _, _, _, rfl, _⟩ := h; rfl) | (obtain ⟨_, _, _, _, _, _, _, rfl, _⟩ := h; rfl) | (obtain ⟨_, _, _, _, _, _, _, _, rfl, _⟩ := h; rfl)) sem_have_form
  have D_need_entry := Dfn.mk' (x := "need_entry") (st := s_need_entry) (ps := ["links", "entry"]) X G a_need_entry l_need_entry c_need_entry k_need_entry (fun _ _ _ _ _ _ us hl => match us, hl with | [_, _], _ => rfl)
  have C_need_entry := ok_need_entry (P := P) (w := w) (base := base) D_need_entry C_is_integer n_len (by intro us m Q h; first | (obtain ⟨rfl, _⟩ := h; rfl) | (obtain ⟨_, rfl, _⟩ := h; rfl) | (obtain ⟨_, _, rfl, _⟩ := h; rfl) | (obtain ⟨_, _, _, rfl, _⟩ := h; rfl) | (obtain ⟨_, _, _, _, rfl, _⟩ := h; rfl) | (obtain ⟨_, _, _, _, _, rfl, _⟩ := h; rfl) | (obtain ⟨_, _, _, _, _, _, rfl, _⟩ := h; rfl) | (obtain ⟨_, _, _, _, _, _, _, rfl, _⟩ := h; rfl) | (obtain ⟨_, _, _, _, _, _, _, _, rfl, _⟩ := h; rfl)) sem_need_entry
  have D_is_chain_of := Dfn.mk' (x := "is_chain_of") (st := s_is_chain_of) (ps := ["links", "value"]) X G a_is_chain_of l_is_chain_of c_is_chain_of k_is_chain_of (fun _ _ _ _ _ _ us hl => match us, hl with | [_, _], _ => rfl)
  have C_is_chain_of := ok_is_chain_of (P := P) (w := w) (base := base) D_is_chain_of C_is_integer n_isinstance n_list n_len n_all n_zip (by intro us m Q h; first | (obtain ⟨rfl, _⟩ := h; rfl) | (obtain ⟨_, rfl, _⟩ := h; rfl) | (obtain ⟨_, _, rfl, _⟩ := h; rfl) | (obtain ⟨_, _, _, rfl, _⟩ := h; rfl) | (obtain ⟨_, _, _, _, rfl, _⟩ := h; rfl) | (obtain ⟨_, _, _, _, _, rfl, _⟩ := h; rfl) | (obtain ⟨_, _, _, _, _, _, rfl, _⟩ := h; rfl) | (obtain ⟨_, _, _, _, _, _, _, rfl, _⟩ := h; rfl) | (obtain ⟨_, _, _, _, _, _, _, _, rfl, _⟩ := h; rfl)) sem_is_chain_of
  have D_numbers_to := Dfn.mk' (x := "numbers_to") (st := s_numbers_to) (ps := ["links", "start", "end"]) X G a_numbers_to l_numbers_to c_numbers_to k_numbers_to (fun _ _ _ _ _ _ us hl => match us, hl with | [_, _, _], _ => rfl)
  have C_numbers_to := ok_numbers_to (P := P) (w := w) (base := base) D_numbers_to C_next_entries n_range n_sum (by intro us m Q h; first | (obtain ⟨rfl, _⟩ := h; rfl) | (obtain ⟨_, rfl, _⟩ := h; rfl) | (obtain ⟨_, _, rfl, _⟩ := h; rfl) | (obtain ⟨_, _, _, rfl, _⟩ := h; rfl) | (obtain ⟨_, _, _, _, rfl, _⟩ := h; rfl) | (obtain ⟨_, _, _, _, _, rfl, _⟩ := h; rfl) | (obtain ⟨_, _, _, _, _, _, rfl, _⟩ := h; rfl) | (obtain ⟨_, _, _, _, _, _, _, rfl, _⟩ := h; rfl) | (obtain ⟨_, _, _, _, _, _, _, _, rfl, _⟩ := h; rfl)) sem_numbers_to
  have D_law_log := Dfn.mk' (x := "_law_log") (st := s_law_log) (ps := ["vat", "size"]) X G a_law_log l_law_log c_law_log k_law_log (fun _ _ _ _ _ _ us hl => match us, hl with | [_, _], _ => rfl)
  have C_law_log := ok_law_log (P := P) (w := w) (base := base) D_law_log C_law_drip n_range n_len n_max (by intro us m Q h; first | (obtain ⟨rfl, _⟩ := h; rfl) | (obtain ⟨_, rfl, _⟩ := h; rfl) | (obtain ⟨_, _, rfl, _⟩ := h; rfl) | (obtain ⟨_, _, _, rfl, _⟩ := h; rfl) | (obtain ⟨_, _, _, _, rfl, _⟩ := h; rfl) | (obtain ⟨_, _, _, _, _, rfl, _⟩ := h; rfl) | (obtain ⟨_, _, _, _, _, _, rfl, _⟩ := h; rfl) | (obtain ⟨_, _, _, _, _, _, _, rfl, _⟩ := h; rfl) | (obtain ⟨_, _, _, _, _, _, _, _, rfl, _⟩ := h; rfl)) sem_law_log_4
  have D_law_range := Dfn.mk' (x := "_law_range") (st := s_law_range) (ps := ["vat", "size"]) X G a_law_range l_law_range c_law_range k_law_range (fun _ _ _ _ _ _ us hl => match us, hl with | [_, _], _ => rfl)
  have C_law_range := ok_law_range (P := P) (w := w) (base := base) D_law_range C_law_drip n_max (by intro us m Q h; first | (obtain ⟨rfl, _⟩ := h; rfl) | (obtain ⟨_, rfl, _⟩ := h; rfl) | (obtain ⟨_, _, rfl, _⟩ := h; rfl) | (obtain ⟨_, _, _, rfl, _⟩ := h; rfl) | (obtain ⟨_, _, _, _, rfl, _⟩ := h; rfl) | (obtain ⟨_, _, _, _, _, rfl, _⟩ := h; rfl) | (obtain ⟨_, _, _, _, _, _, rfl, _⟩ := h; rfl) | (obtain ⟨_, _, _, _, _, _, _, rfl, _⟩ := h; rfl) | (obtain ⟨_, _, _, _, _, _, _, _, rfl, _⟩ := h; rfl)) sem_law_range
  have D_is_log := Dfn.mk' (x := "is_log") (st := s_is_log) (ps := ["value"]) X G a_is_log l_is_log c_is_log k_is_log (fun _ _ _ _ _ _ us hl => match us, hl with | [_], _ => rfl)
  have C_is_log := ok_is_log (P := P) (w := w) (base := base) D_is_log C_have_form C_least_crossing (by intro us m Q h; first | (obtain ⟨rfl, _⟩ := h; rfl) | (obtain ⟨_, rfl, _⟩ := h; rfl) | (obtain ⟨_, _, rfl, _⟩ := h; rfl) | (obtain ⟨_, _, _, rfl, _⟩ := h; rfl) | (obtain ⟨_, _, _, _, rfl, _⟩ := h; rfl) | (obtain ⟨_, _, _, _, _, rfl, _⟩ := h; rfl) | (obtain ⟨_, _, _, _, _, _, rfl, _⟩ := h; rfl) | (obtain ⟨_, _, _, _, _, _, _, rfl, _⟩ := h; rfl) | (obtain ⟨_, _, _, _, _, _, _, _, rfl, _⟩ := h; rfl)) sem_is_log
  have D_need_range := Dfn.mk' (x := "need_range") (st := s_need_range) (ps := ["links", "start", "end"]) X G a_need_range l_need_range c_need_range k_need_range (fun _ _ _ _ _ _ us hl => match us, hl with | [_, _, _], _ => rfl)
  have C_need_range := ok_need_range (P := P) (w := w) (base := base) D_need_range C_need_entry C_is_integer (by intro us m Q h; first | (obtain ⟨rfl, _⟩ := h; rfl) | (obtain ⟨_, rfl, _⟩ := h; rfl) | (obtain ⟨_, _, rfl, _⟩ := h; rfl) | (obtain ⟨_, _, _, rfl, _⟩ := h; rfl) | (obtain ⟨_, _, _, _, rfl, _⟩ := h; rfl) | (obtain ⟨_, _, _, _, _, rfl, _⟩ := h; rfl) | (obtain ⟨_, _, _, _, _, _, rfl, _⟩ := h; rfl) | (obtain ⟨_, _, _, _, _, _, _, rfl, _⟩ := h; rfl) | (obtain ⟨_, _, _, _, _, _, _, _, rfl, _⟩ := h; rfl)) sem_need_range
  have D_need_chain := Dfn.mk' (x := "need_chain") (st := s_need_chain) (ps := ["links", "value"]) X G a_need_chain l_need_chain c_need_chain k_need_chain (fun _ _ _ _ _ _ us hl => match us, hl with | [_, _], _ => rfl)
  have C_need_chain := ok_need_chain (P := P) (w := w) (base := base) D_need_chain C_is_chain_of (by intro us m Q h; first | (obtain ⟨rfl, _⟩ := h; rfl) | (obtain ⟨_, rfl, _⟩ := h; rfl) | (obtain ⟨_, _, rfl, _⟩ := h; rfl) | (obtain ⟨_, _, _, rfl, _⟩ := h; rfl) | (obtain ⟨_, _, _, _, rfl, _⟩ := h; rfl) | (obtain ⟨_, _, _, _, _, rfl, _⟩ := h; rfl) | (obtain ⟨_, _, _, _, _, _, rfl, _⟩ := h; rfl) | (obtain ⟨_, _, _, _, _, _, _, rfl, _⟩ := h; rfl) | (obtain ⟨_, _, _, _, _, _, _, _, rfl, _⟩ := h; rfl)) sem_need_chain_u
  have D_need_log := Dfn.mk' (x := "need_log") (st := s_need_log) (ps := ["value"]) X G a_need_log l_need_log c_need_log k_need_log (fun _ _ _ _ _ _ us hl => match us, hl with | [_], _ => rfl)
  have C_need_log := ok_need_log (P := P) (w := w) (base := base) D_need_log C_is_log (by intro us m Q h; first | (obtain ⟨rfl, _⟩ := h; rfl) | (obtain ⟨_, rfl, _⟩ := h; rfl) | (obtain ⟨_, _, rfl, _⟩ := h; rfl) | (obtain ⟨_, _, _, rfl, _⟩ := h; rfl) | (obtain ⟨_, _, _, _, rfl, _⟩ := h; rfl) | (obtain ⟨_, _, _, _, _, rfl, _⟩ := h; rfl) | (obtain ⟨_, _, _, _, _, _, rfl, _⟩ := h; rfl) | (obtain ⟨_, _, _, _, _, _, _, rfl, _⟩ := h; rfl) | (obtain ⟨_, _, _, _, _, _, _, _, rfl, _⟩ := h; rfl)) sem_need_log
  have D_count_chains := Dfn.mk' (x := "count_chains") (st := s_count_chains) (ps := ["links", "start", "end"]) X G a_count_chains l_count_chains c_count_chains k_count_chains (fun _ _ _ _ _ _ us hl => match us, hl with | [_, _, _], _ => rfl)
  have C_count_chains := ok_count_chains (P := P) (w := w) (base := base) D_count_chains C_need_log C_need_range C_numbers_to (by intro us m Q h; first | (obtain ⟨rfl, _⟩ := h; rfl) | (obtain ⟨_, rfl, _⟩ := h; rfl) | (obtain ⟨_, _, rfl, _⟩ := h; rfl) | (obtain ⟨_, _, _, rfl, _⟩ := h; rfl) | (obtain ⟨_, _, _, _, rfl, _⟩ := h; rfl) | (obtain ⟨_, _, _, _, _, rfl, _⟩ := h; rfl) | (obtain ⟨_, _, _, _, _, _, rfl, _⟩ := h; rfl) | (obtain ⟨_, _, _, _, _, _, _, rfl, _⟩ := h; rfl) | (obtain ⟨_, _, _, _, _, _, _, _, rfl, _⟩ := h; rfl)) sem_count_chains
  have D_nth_chain := Dfn.mk' (x := "nth_chain") (st := s_nth_chain) (ps := ["links", "start", "end", "number"]) X G a_nth_chain l_nth_chain c_nth_chain k_nth_chain (fun _ _ _ _ _ _ us hl => match us, hl with | [_, _, _, _], _ => rfl)
  have C_nth_chain := ok_nth_chain (P := P) (w := w) (base := base) D_nth_chain C_need_log C_need_range C_numbers_to C_is_integer C_next_entries (by intro us m Q h; first | (obtain ⟨rfl, _⟩ := h; rfl) | (obtain ⟨_, rfl, _⟩ := h; rfl) | (obtain ⟨_, _, rfl, _⟩ := h; rfl) | (obtain ⟨_, _, _, rfl, _⟩ := h; rfl) | (obtain ⟨_, _, _, _, rfl, _⟩ := h; rfl) | (obtain ⟨_, _, _, _, _, rfl, _⟩ := h; rfl) | (obtain ⟨_, _, _, _, _, _, rfl, _⟩ := h; rfl) | (obtain ⟨_, _, _, _, _, _, _, rfl, _⟩ := h; rfl) | (obtain ⟨_, _, _, _, _, _, _, _, rfl, _⟩ := h; rfl)) sem_nth_chain_2
  have D_chain_number := Dfn.mk' (x := "chain_number") (st := s_chain_number) (ps := ["links", "chain"]) X G a_chain_number l_chain_number c_chain_number k_chain_number (fun _ _ _ _ _ _ us hl => match us, hl with | [_, _], _ => rfl)
  have C_chain_number := ok_chain_number (P := P) (w := w) (base := base) D_chain_number C_need_log C_need_chain C_numbers_to C_next_entries n_zip (by intro us m Q h; first | (obtain ⟨rfl, _⟩ := h; rfl) | (obtain ⟨_, rfl, _⟩ := h; rfl) | (obtain ⟨_, _, rfl, _⟩ := h; rfl) | (obtain ⟨_, _, _, rfl, _⟩ := h; rfl) | (obtain ⟨_, _, _, _, rfl, _⟩ := h; rfl) | (obtain ⟨_, _, _, _, _, rfl, _⟩ := h; rfl) | (obtain ⟨_, _, _, _, _, _, rfl, _⟩ := h; rfl) | (obtain ⟨_, _, _, _, _, _, _, rfl, _⟩ := h; rfl) | (obtain ⟨_, _, _, _, _, _, _, _, rfl, _⟩ := h; rfl)) sem_chain_number_u
  have D_law_every := Dfn.mk' (x := "_law_every") (st := s_law_every) (ps := ["links", "start", "end"]) X G a_law_every l_law_every c_law_every k_law_every (fun _ _ _ _ _ _ us hl => match us, hl with | [_, _, _], _ => rfl)
  have C_law_every := rec_law_every (P := P) (w := w) (base := base) D_law_every C_law_next
  have D_law_right := Dfn.mk' (x := "_law_right") (st := s_law_right) (ps := ["links", "start", "end"]) X G a_law_right l_law_right c_law_right k_law_right (fun _ _ _ _ _ _ us hl => match us, hl with | [_, _, _], _ => rfl)
  have C_law_right := ok_law_right (P := P) (w := w) (base := base) D_law_right C_law_every C_count_chains C_nth_chain C_chain_number n_repr n_sorted n_len n_range (by intro us m Q h; first | (obtain ⟨rfl, _⟩ := h; rfl) | (obtain ⟨_, rfl, _⟩ := h; rfl) | (obtain ⟨_, _, rfl, _⟩ := h; rfl) | (obtain ⟨_, _, _, rfl, _⟩ := h; rfl) | (obtain ⟨_, _, _, _, rfl, _⟩ := h; rfl) | (obtain ⟨_, _, _, _, _, rfl, _⟩ := h; rfl) | (obtain ⟨_, _, _, _, _, _, rfl, _⟩ := h; rfl) | (obtain ⟨_, _, _, _, _, _, _, rfl, _⟩ := h; rfl) | (obtain ⟨_, _, _, _, _, _, _, _, rfl, _⟩ := h; rfl)) sem_law_right
  have D_law := Dfn.mk' (x := "law") (st := s_law) (ps := ["script"]) X G a_law l_law c_law k_law (fun _ _ _ _ _ _ us hl => match us, hl with | [_], _ => rfl)
  have C_law := ok_law (P := P) (w := w) (base := base) D_law C_law_vat C_law_drip C_law_log C_law_range C_law_right C_count_chains C_nth_chain n_len n_min n_max n_range (by intro us m Q h; first | (obtain ⟨rfl, _⟩ := h; rfl) | (obtain ⟨_, rfl, _⟩ := h; rfl) | (obtain ⟨_, _, rfl, _⟩ := h; rfl) | (obtain ⟨_, _, _, rfl, _⟩ := h; rfl) | (obtain ⟨_, _, _, _, rfl, _⟩ := h; rfl) | (obtain ⟨_, _, _, _, _, rfl, _⟩ := h; rfl) | (obtain ⟨_, _, _, _, _, _, rfl, _⟩ := h; rfl) | (obtain ⟨_, _, _, _, _, _, _, rfl, _⟩ := h; rfl) | (obtain ⟨_, _, _, _, _, _, _, _, rfl, _⟩ := h; rfl)) sem_law
  exact C_law
end Z.K09
open PySem PySem.W PyProof.Rows
set_option maxHeartbeats 0 in
theorem PySem.Challenge.cw_backlinks_k09_chains_counted_and_numbere_holds : PySem.Challenge.rw_backlinks_k09_chains_counted_and_numbere.Holds := by
  w_on; o_law; k_head; (case hw => w_witness2)
  k_fill
  refine Z.walkG (l := PySem.Challenge.rw_backlinks_k09_chains_counted_and_numbere) (k := 16) (x := "script") rfl rfl ⟨rfl, by decide, by decide⟩ (fun w h Y => PySem.W.kIn_of Y) ?F
  case F =>
    intro w mg h KX G base hB hBns
    refine' Z.K09.fin KX G ?a_is_integer ?l_is_integer ?c_is_integer ?k_is_integer ?a_have_form ?l_have_form ?c_have_form ?k_have_form ?a_least_crossing ?l_least_crossing ?c_least_crossing ?k_least_crossing ?a_is_log ?l_is_log ?c_is_log ?k_is_log ?a_need_log ?l_need_log ?c_need_log ?k_need_log ?a_need_entry ?l_need_entry ?c_need_entry ?k_need_entry ?a_need_range ?l_need_range ?c_need_range ?k_need_range ?a_is_chain_of ?l_is_chain_of ?c_is_chain_of ?k_is_chain_of ?a_need_chain ?l_need_chain ?c_need_chain ?k_need_chain ?a_next_entries ?l_next_entries ?c_next_entries ?k_next_entries ?a_numbers_to ?l_numbers_to ?c_numbers_to ?k_numbers_to ?a_count_chains ?l_count_chains ?c_count_chains ?k_count_chains ?a_nth_chain ?l_nth_chain ?c_nth_chain ?k_nth_chain ?a_chain_number ?l_chain_number ?c_chain_number ?k_chain_number ?a_law_vat ?l_law_vat ?c_law_vat ?k_law_vat ?a_law_drip ?l_law_drip ?c_law_drip ?k_law_drip ?a_law_log ?l_law_log ?c_law_log ?k_law_log ?a_law_next ?l_law_next ?c_law_next ?k_law_next ?a_law_range ?l_law_range ?c_law_range ?k_law_range ?a_law_every ?l_law_every ?c_law_every ?k_law_every ?a_law_right ?l_law_right ?c_law_right ?k_law_right ?a_law ?l_law ?c_law ?k_law ?z_abs ?z_all ?z_bool ?z_enumerate ?z_int ?z_isinstance ?z_len ?z_list ?z_max ?z_min ?z_range ?z_repr ?z_set ?z_sorted ?z_sum ?z_zip ?q_MOST_ENTRIES base
    (case a_is_integer => k_is); (case l_is_integer => k_is); (case c_is_integer => k_is); (case k_is_integer => k_is); (case a_have_form => k_is); (case l_have_form => k_is); (case c_have_form => k_is); (case k_have_form => k_is); (case a_least_crossing => k_is); (case l_least_crossing => k_is); (case c_least_crossing => k_is); (case k_least_crossing => k_is); (case a_is_log => k_is); (case l_is_log => k_is); (case c_is_log => k_is); (case k_is_log => k_is); (case a_need_log => k_is); (case l_need_log => k_is); (case c_need_log => k_is); (case k_need_log => k_is); (case a_need_entry => k_is); (case l_need_entry => k_is); (case c_need_entry => k_is); (case k_need_entry => k_is); (case a_need_range => k_is); (case l_need_range => k_is); (case c_need_range => k_is); (case k_need_range => k_is); (case a_is_chain_of => k_is); (case l_is_chain_of => k_is); (case c_is_chain_of => k_is); (case k_is_chain_of => k_is); (case a_need_chain => k_is); (case l_need_chain => k_is); (case c_need_chain => k_is); (case k_need_chain => k_is); (case a_next_entries => k_is); (case l_next_entries => k_is); (case c_next_entries => k_is); (case k_next_entries => k_is); (case a_numbers_to => k_is); (case l_numbers_to => k_is); (case c_numbers_to => k_is); (case k_numbers_to => k_is); (case a_count_chains => k_is); (case l_count_chains => k_is); (case c_count_chains => k_is); (case k_count_chains => k_is); (case a_nth_chain => k_is); (case l_nth_chain => k_is); (case c_nth_chain => k_is); (case k_nth_chain => k_is); (case a_chain_number => k_is); (case l_chain_number => k_is); (case c_chain_number => k_is); (case k_chain_number => k_is); (case a_law_vat => k_is); (case l_law_vat => k_is); (case c_law_vat => k_is); (case k_law_vat => k_is); (case a_law_drip => k_is); (case l_law_drip => k_is); (case c_law_drip => k_is); (case k_law_drip => k_is); (case a_law_log => k_is); (case l_law_log => k_is); (case c_law_log => k_is); (case k_law_log => k_is); (case a_law_next => k_is); (case l_law_next => k_is); (case c_law_next => k_is); (case k_law_next => k_is); (case a_law_range => k_is); (case l_law_range => k_is); (case c_law_range => k_is); (case k_law_range => k_is); (case a_law_every => k_is); (case l_law_every => k_is); (case c_law_every => k_is); (case k_law_every => k_is); (case a_law_right => k_is); (case l_law_right => k_is); (case c_law_right => k_is); (case k_law_right => k_is); (case a_law => k_is); (case l_law => k_is); (case c_law => k_is); (case k_law => k_is); (case z_abs => k_is); (case z_all => k_is); (case z_bool => k_is); (case z_enumerate => k_is); (case z_int => k_is); (case z_isinstance => k_is); (case z_len => k_is); (case z_list => k_is); (case z_max => k_is); (case z_min => k_is); (case z_range => k_is); (case z_repr => k_is); (case z_set => k_is); (case z_sorted => k_is); (case z_sum => k_is); (case z_zip => k_is); (case q_MOST_ENTRIES => k_is)
