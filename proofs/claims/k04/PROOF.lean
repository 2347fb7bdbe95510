import PyProof.Rows.All
import Wide.All
import OpenK.AllK
import Wide.FinOn
import HandS.ForMost
import HandS.Wide
import HandS.Style
import HandS.IsInst
import HandS.More
import PyProof.ReprRoads
import HandS.RaiseMore
import HandS.EndBits
import HandS.Conv
import HandS.SetFor
import HandS.SortInts
import HandS.Strs
import HandS.SetBool
import PyProof.SetRoads
import PyProof.Rows.CountFlat
import HandS.Star
import KE.KUnpackStar
import KE.DataCmp
import KE.SortData
import HandS.ExcOwn
import HandS.ExcIs
import HandS.TryOnly
import HandS.Codes
import HandS.ExcCtx
import HandS.HotCalls
import HandS.ExcInit
import HandS.ExcField
import HandS.FStr
import HandS.ClsMeth
import HandS.Words
import PyProof.LongRange
import PyProof.ListRange
import HandS.Zip0
import HandS.Zip
import KE.KDictZip
import HandS.GenList
import KE.DatumOrd
import KE.GoesMore
import HandS.ListEq
import PySem.Challenge.RW_backlinks_k04_errors_of_links
set_option Elab.async false
set_option linter.all false
set_option maxRecDepth 100000
set_option maxHeartbeats 4000000
set_option autoImplicit false
/-! Z1: a layer over HandS in which addresses do not appear: values are data (PyData) or names of cells; a store of cells; readings over these. -/
namespace Z
open PySem PySem.Spec PyProof.Rows L2

/-! ### data at values -/
def keyD : Key → PyData
  | .inl i => .int i
  | .inr x => .str x
mutual
inductive IsD (K : PySem.W.Frag) (F : Hp) : V → PyData → Prop
  | non : IsD K F .non .none
  | bl (b : Bool) : IsD K F (.bl b) (.bool b)
  | int (i : Int) : IsD K F (.int i) (.int i)
  | str (x : Str) : IsD K F (.str x) (.str x)
  | lst {a : Addr} {xs : List V} {ds : List PyData} : F a = some (.lst xs) → IsDs K F xs ds → IsD K F (.ref a) (.list ds)
  | tup {a : Addr} {xs : List V} {ds : List PyData} : Rd F a (.tup xs) → IsDs K F xs ds → IsD K F (.ref a) (.tuple ds)
  | dct {a : Addr} {kvs : List (Key × V)} {ds : List (PyData × PyData)} : F a = some (.dK kvs) → IsDk K F kvs ds → IsD K F (.ref a) (.dict ds)
inductive IsDs (K : PySem.W.Frag) (F : Hp) : List V → List PyData → Prop
  | nil : IsDs K F [] []
  | cons {v : V} {vs : List V} {d : PyData} {ds : List PyData} : IsD K F v d → IsDs K F vs ds → IsDs K F (v :: vs) (d :: ds)
inductive IsDk (K : PySem.W.Frag) (F : Hp) : List (Key × V) → List (PyData × PyData) → Prop
  | nil : IsDk K F [] []
  | cons {k : Key} {v : V} {vs : List (Key × V)} {d : PyData} {ds : List (PyData × PyData)} : IsD K F v d → IsDk K F vs ds → IsDk K F ((k, v) :: vs) ((keyD k, d) :: ds)
end
theorem rd_mono {H H' : Hp} {a : Addr} {u : HO} (e : Same H H') (h : Rd H a u) : Rd H' a u := by
  rcases h with h | ⟨o, h⟩
  · exact Or.inl (e a _ h)
  · exact Or.inr ⟨o, e a _ h⟩
mutual
theorem IsD.mono {K : PySem.W.Frag} {F F' : Hp} (e : Same F F') : ∀ {v : V} {d : PyData}, IsD K F v d → IsD K F' v d
  | _, _, .non => .non
  | _, _, .bl b => .bl b
  | _, _, .int i => .int i
  | _, _, .str x => .str x
  | _, _, .lst h hs => .lst (e _ _ h) (IsDs.mono e hs)
  | _, _, .tup h hs => .tup (rd_mono e h) (IsDs.mono e hs)
  | _, _, .dct h hs => .dct (e _ _ h) (IsDk.mono e hs)
theorem IsDs.mono {K : PySem.W.Frag} {F F' : Hp} (e : Same F F') : ∀ {v : List V} {d : List PyData}, IsDs K F v d → IsDs K F' v d
  | _, _, .nil => .nil
  | _, _, .cons h hs => .cons (IsD.mono e h) (IsDs.mono e hs)
theorem IsDk.mono {K : PySem.W.Frag} {F F' : Hp} (e : Same F F') : ∀ {v : List (Key × V)} {d : List (PyData × PyData)}, IsDk K F v d → IsDk K F' v d
  | _, _, .nil => .nil
  | _, _, .cons h hs => .cons (IsD.mono e h) (IsDk.mono e hs)
end
section
variable {K : PySem.W.Frag} {F : Hp}
theorem IsDs.length : ∀ {vs : List V} {ds : List PyData}, IsDs K F vs ds → vs.length = ds.length
  | _, _, .nil => rfl
  | _, _, .cons _ h => congrArg (· + 1) (IsDs.length h)
theorem IsDs.get : ∀ {vs : List V} {ds : List PyData} {i : Nat} {d : PyData}, IsDs K F vs ds → ds[i]? = some d → ∃ v, vs[i]? = some v ∧ IsD K F v d
  | _, _, _, _, .nil, e => by simp at e
  | _, _, 0, _, .cons r _, e => by simp at e; subst e; exact ⟨_, rfl, r⟩
  | _, _, i + 1, d, .cons _ t, e => by
    obtain ⟨u, h1, h2⟩ := IsDs.get (i := i) (d := d) t (by simpa using e)
    exact ⟨u, by simpa using h1, h2⟩
theorem IsDs.append : ∀ {xs ys : List V} {us ws : List PyData}, IsDs K F xs us → IsDs K F ys ws → IsDs K F (xs ++ ys) (us ++ ws)
  | _, _, _, _, .nil, s => s
  | _, _, _, _, .cons r t, s => .cons r (IsDs.append t s)
theorem IsDs.take : ∀ {xs : List V} {us : List PyData} (n : Nat), IsDs K F xs us → IsDs K F (xs.take n) (us.take n)
  | _, _, 0, _ => .nil
  | _, _, _ + 1, .nil => .nil
  | _, _, n + 1, .cons r t => .cons r (IsDs.take n t)
theorem IsDs.drop : ∀ {xs : List V} {us : List PyData} (n : Nat), IsDs K F xs us → IsDs K F (xs.drop n) (us.drop n)
  | _, _, 0, r => r
  | _, _, _ + 1, .nil => .nil
  | _, _, n + 1, .cons _ t => IsDs.drop n t
theorem IsDs.set {x : V} {d : PyData} (r : IsD K F x d) : ∀ {xs : List V} {us : List PyData} (i : Nat), IsDs K F xs us → IsDs K F (xs.set i x) (us.set i d)
  | _, _, _, .nil => .nil
  | _, _, 0, .cons _ t => .cons r t
  | _, _, i + 1, .cons q t => .cons q (IsDs.set r i t)
theorem IsDs.dropLast {xs : List V} {us : List PyData} (h : IsDs K F xs us) : IsDs K F xs.dropLast us.dropLast := by
  rw [List.dropLast_eq_take, List.dropLast_eq_take, h.length]
  exact h.take _
theorem IsDs.eraseIdx : ∀ {xs : List V} {us : List PyData} (i : Nat), IsDs K F xs us → IsDs K F (xs.eraseIdx i) (us.eraseIdx i)
  | _, _, _, .nil => .nil
  | _, _, 0, .cons _ t => t
  | _, _, i + 1, .cons r t => .cons r (IsDs.eraseIdx i t)
theorem IsDs.reverse {xs : List V} {us : List PyData} (h : IsDs K F xs us) : IsDs K F xs.reverse us.reverse := by
  induction h using IsDs.rec (motive_1 := fun _ _ _ => True) (motive_3 := fun _ _ _ => True) with
  | nil => exact .nil
  | cons h _ _ ih => rw [List.reverse_cons, List.reverse_cons]; exact IsDs.append ih (.cons h .nil)
  | _ => trivial
theorem IsDs.rep {xs : List V} {us : List PyData} (h : IsDs K F xs us) : ∀ k : Nat, IsDs K F (List.replicate k xs).flatten (List.replicate k us).flatten
  | 0 => .nil
  | k + 1 => by rw [List.replicate_succ, List.replicate_succ, List.flatten_cons, List.flatten_cons]; exact h.append (IsDs.rep h k)
theorem IsDs.ints : ∀ {vs : List V} {ns : List Int}, IsDs K F vs (ns.map .int) → vs = ns.map V.int
  | _, [], h => by cases h; rfl
  | _, n :: ns, h => by
    cases h with
    | cons a b => cases a; rw [IsDs.ints b]; rfl
theorem IsDs.of_ints : ∀ (ns : List Int), IsDs K F (ns.map V.int) (ns.map .int)
  | [] => .nil
  | n :: ns => .cons (.int n) (IsDs.of_ints ns)
theorem IsDs.bools : ∀ {vs : List V} {ns : List Bool}, IsDs K F vs (ns.map .bool) → vs = ns.map V.bl
  | _, [], h => by cases h; rfl
  | _, n :: ns, h => by
    cases h with
    | cons a b => cases a; rw [IsDs.bools b]; rfl
end

/-! ### values, cells, stores -/
/-- other values: an exception of a class of the text (what it bears), a def of the text -/
inductive Oth where
  | exc (nm : Str) (pl : List PyData)
  | fn (nm : Str)
inductive U where
  | v (d : PyData)
  | r (k : Nat)
  | s (ns : List Int)
  | o (t : Oth)
inductive Cell where
  | dead
  | lst (l : List PyData)
  | dct (l : List (PyData × PyData))
abbrev Sto := List Cell
abbrev En := List (Option U)

/-- the object of an exception: its class by its name -/
structure ExcO (K : PySem.W.Frag) (nm : Str) (oe : Obj) : Prop where
  cls : ∃ C, oe.cls = .ref C ∧ PySem.W.nsIn K mainGlobals nm = some (some (.ref C))
  data : ∃ vs : Array Value, oe.data = .fields vs ∧ vs[2]? = some .none
/-- the fields of a class of exceptions -/
def fldNm (nm : Str) : List Str := if nm = "Crossing" then ["entry", "other"] else if nm = "InvalidChange" then ["index"] else []
/-- what an exception bears: no dict and nothing, or the fields of its class, ints -/
def ExcD (F : Hp) (nm : Str) (d : Option Addr) (pl : List PyData) : Prop := (d = none ∧ pl = []) ∨ ∃ (dd : Addr) (ns : List Int), d = some dd ∧ pl = ns.map .int ∧ ns.length = (fldNm nm).length ∧ F dd = some (.xd (((fldNm nm).zip (ns.map V.int)).reverse))
theorem ExcD.mono {F F' : Hp} (e : Same F F') {nm : Str} {d : Option Addr} {pl : List PyData} (h : ExcD F nm d pl) : ExcD F' nm d pl := by
  rcases h with h | ⟨dd, ns, h1, h2, h3, h4⟩
  · exact .inl h
  · exact .inr ⟨dd, ns, h1, h2, h3, e _ _ h4⟩
def IsO (K : PySem.W.Frag) (F : Hp) : Oth → V → Prop
  | .exc nm pl, x => ∃ a oe u, x = .ref a ∧ F a = some (.frz oe u) ∧ ExcO K nm oe ∧ ExcD F nm oe.dict pl
  | .fn nm, x => ∃ f, x = .ref f ∧ PySem.W.nsIn K mainGlobals nm = some (some (.ref f))
theorem IsO.ref {K : PySem.W.Frag} {F : Hp} : ∀ {t : Oth} {v : V}, IsO K F t v → ∃ a, v = .ref a
  | .exc _ _, _, ⟨a, _, _, e, _⟩ => ⟨a, e⟩
  | .fn _, _, ⟨f, e, _⟩ => ⟨f, e⟩
theorem IsO.mono {K : PySem.W.Frag} {F F' : Hp} (e : Same F F') : ∀ {t : Oth} {v : V}, IsO K F t v → IsO K F' t v
  | .exc _ _, _, ⟨a, oe, u, q, f, r, d⟩ => ⟨a, oe, u, q, e _ _ f, r, d.mono e⟩
  | .fn _, _, h => h
def IsU (K : PySem.W.Frag) (F : Hp) (ro : List Addr) : U → V → Prop
  | .v d, x => IsD K F x d
  | .r k, x => ∃ a, ro[k]? = some a ∧ x = .ref a
  | .s ns, x => ∃ a, x = .ref a ∧ SqL K F a (ns.map V.int)
  | .o t, x => IsO K F t x
inductive IsUs (K : PySem.W.Frag) (F : Hp) (ro : List Addr) : List U → List V → Prop
  | nil : IsUs K F ro [] []
  | cons {u : U} {us : List U} {v : V} {vs : List V} : IsU K F ro u v → IsUs K F ro us vs → IsUs K F ro (u :: us) (v :: vs)
def CellOk (K : PySem.W.Frag) (F H : Hp) (a : Addr) : Cell → Prop
  | .dead => H a ≠ none
  | .lst l => F a = none ∧ ∃ xs, H a = some (.lst xs) ∧ IsDs K F xs l
  | .dct l => F a = none ∧ ∃ xs, H a = some (.dK xs) ∧ IsDk K F xs l
structure ConM (K : PySem.W.Frag) (F : Hp) (ro : List Addr) (H : Hp) (m : Sto) : Prop where
  ex : Same F H
  len : ro.length = m.length
  nd : ro.Nodup
  cell : ∀ (k : Nat) (a : Addr) (c : Cell), ro[k]? = some a → m[k]? = some c → CellOk K F H a c
structure ConE (K : PySem.W.Frag) (F : Hp) (ro : List Addr) (σ : L2.St) (E : En) : Prop where
  len : σ.length = E.length
  val : ∀ (i : Nat) (u : U), E[i]? = some (some u) → ∃ v, σ[i]? = some (some v) ∧ IsU K F ro u v
/-- growth: what was known stays; new cells are new; what is neither known nor a cell is left alone -/
structure Gro (F : Hp) (ro : List Addr) (H : Hp) (F' : Hp) (ro' : List Addr) (H' : Hp) : Prop where
  ex : Same F F'
  more : ∃ t, ro' = ro ++ t ∧ ∀ a ∈ t, H a = none
  fr : ∀ a o, H a = some o → a ∉ ro → H' a = some o ∧ F' a = F a
  st : ∀ a, H a ≠ none → H' a ≠ none

section
variable {K : PySem.W.Frag} {F F' F1 F2 H H' H1 H2 : Hp} {ro ro' ro1 ro2 : List Addr} {m m' : Sto} {σ : L2.St} {E : En} {u : U} {v : V}
theorem Gro.refl : Gro F ro H F ro H := ⟨Same.refl F, ⟨[], by simp, fun _ h => nomatch h⟩, fun _ _ e _ => ⟨e, rfl⟩, fun _ h => h⟩
theorem CellOk.some {a : Addr} {c : Cell} (h : CellOk K F H a c) : H a ≠ none := by
  cases c with
  | dead => exact h
  | lst l => obtain ⟨_, xs, e, _⟩ := h; rw [e]; simp
  | dct l => obtain ⟨_, xs, e, _⟩ := h; rw [e]; simp
theorem ConM.inro (c : ConM K F ro H m) {a : Addr} (h : a ∈ ro) : H a ≠ none := by
  obtain ⟨k, hk, e⟩ := List.getElem_of_mem h
  have h1 : ro[k]? = some a := by rw [List.getElem?_eq_getElem hk, e]
  have h2 : k < m.length := by rw [← c.len]; exact hk
  exact (c.cell k a m[k] h1 (List.getElem?_eq_getElem h2)).some
theorem ConM.new (c : ConM K F ro H m) {p : Addr} (h : H p = none) : F p = none ∧ p ∉ ro := by
  refine ⟨?_, fun hp => c.inro hp h⟩
  cases q : F p with
  | none => rfl
  | some o =>
    rw [c.ex p o q] at h
    cases h
theorem Gro.trans (a : Gro F ro H F1 ro1 H1) (b : Gro F1 ro1 H1 F2 ro2 H2) : Gro F ro H F2 ro2 H2 := by
  obtain ⟨t, e, n⟩ := a.more
  obtain ⟨t', e', n'⟩ := b.more
  have fr1 : ∀ x o, H x = some o → x ∉ ro → x ∉ ro1 := fun x o hx hr hm => by
    rw [e] at hm
    rcases List.mem_append.mp hm with q | q
    · exact hr q
    · rw [n x q] at hx; cases hx
  refine ⟨a.ex.trans b.ex, ⟨t ++ t', by rw [e', e, List.append_assoc], fun x hx => ?_⟩, fun x o hx hr => ?_, fun x hx => b.st x (a.st x hx)⟩
  · rcases List.mem_append.mp hx with q | q
    · exact n x q
    · exact Classical.byContradiction fun z => a.st x z (n' x q)
  · obtain ⟨h1, f1⟩ := a.fr x o hx hr
    obtain ⟨h2, f2⟩ := b.fr x o h1 (fr1 x o hx hr)
    exact ⟨h2, f2.trans f1⟩
theorem IsU.mono (g : Gro F ro H F' ro' H') (h : IsU K F ro u v) : IsU K F' ro' u v := by
  cases u with
  | v d => exact IsD.mono g.ex h
  | r k =>
    obtain ⟨a, e, q⟩ := h
    obtain ⟨t, et, _⟩ := g.more
    exact ⟨a, by rw [et, List.getElem?_append_left (List.getElem?_eq_some_iff.mp e).1]; exact e, q⟩
  | s ns =>
    obtain ⟨a, e, q⟩ := h
    exact ⟨a, e, g.ex.seq q⟩
  | o t => exact IsO.mono g.ex h
theorem IsUs.mono (g : Gro F ro H F' ro' H') : ∀ {us : List U} {vs : List V}, IsUs K F ro us vs → IsUs K F' ro' us vs
  | _, _, .nil => .nil
  | _, _, .cons h t => .cons (h.mono g) (IsUs.mono g t)
theorem IsUs.length : ∀ {us : List U} {vs : List V}, IsUs K F ro us vs → us.length = vs.length
  | _, _, .nil => rfl
  | _, _, .cons _ t => congrArg (· + 1) (IsUs.length t)
theorem ConE.mono (g : Gro F ro H F' ro' H') (h : ConE K F ro σ E) : ConE K F' ro' σ E := ⟨h.len, fun i u e => by
  obtain ⟨v, a, b⟩ := h.val i u e
  exact ⟨v, a, b.mono g⟩⟩
theorem ConE.set (h : ConE K F ro σ E) (i : Nat) (q : IsU K F ro u v) : ConE K F ro (σ.set i (some v)) (E.set i (some u)) := by
  refine ⟨by rw [List.length_set, List.length_set]; exact h.len, fun j w e => ?_⟩
  by_cases hj : i = j
  · subst hj
    by_cases hi : i < E.length
    · rw [List.getElem?_set_self hi] at e
      cases e
      exact ⟨v, by rw [List.getElem?_set_self (by rw [h.len]; exact hi)], q⟩
    · rw [List.getElem?_eq_none (by rw [List.length_set]; omega)] at e; cases e
  · rw [List.getElem?_set_ne hj] at e
    obtain ⟨x, a, b⟩ := h.val j w e
    exact ⟨x, by rw [List.getElem?_set_ne hj]; exact a, b⟩
theorem ConE.unset (h : ConE K F ro σ E) (i : Nat) : ConE K F ro (σ.set i none) (E.set i none) := by
  refine ⟨by rw [List.length_set, List.length_set]; exact h.len, fun j w e => ?_⟩
  by_cases hj : i = j
  · subst hj
    by_cases hi : i < E.length
    · rw [List.getElem?_set_self hi] at e
      cases e
    · rw [List.getElem?_eq_none (by rw [List.length_set]; omega)] at e; cases e
  · rw [List.getElem?_set_ne hj] at e
    obtain ⟨x, a, b⟩ := h.val j w e
    exact ⟨x, by rw [List.getElem?_set_ne hj]; exact a, b⟩

/-! ### the store's four moves -/
theorem same_upd {H : Hp} {p : Addr} {o : HO} (h : H p = none) : Same H (upd H p o) := fun b x e => by
  rw [upd_ne (ne_of_none e h)]
  exact e
theorem same_upd2 {F H : Hp} {p : Addr} {o : HO} (h : Same F H) : Same (upd F p o) (upd H p o) := fun b x e => by
  by_cases hb : b = p
  · subst hb; rw [upd_same] at e ⊢; exact e
  · rw [upd_ne hb] at e ⊢; exact h b x e
/-- cells stand when the known part grows by what is no cell, and the heap changes off them -/
theorem CellOk.grow {a : Addr} {c : Cell} (h : CellOk K F H a c) (e : Same F F') (hF : F a = none → F' a = none) (hH : H' a = H a) : CellOk K F' H' a c := by
  cases c with
  | dead => show H' a ≠ none; rw [hH]; exact h
  | lst l =>
    obtain ⟨h1, xs, h2, h3⟩ := h
    exact ⟨hF h1, xs, by rw [hH]; exact h2, IsDs.mono e h3⟩
  | dct l =>
    obtain ⟨h1, xs, h2, h3⟩ := h
    exact ⟨hF h1, xs, by rw [hH]; exact h2, IsDk.mono e h3⟩
/-- a new known object -/
theorem ConM.known (c : ConM K F ro H m) {p : Addr} (hp : H p = none) (o : HO) : ConM K (upd F p o) ro (upd H p o) m ∧ Gro F ro H (upd F p o) ro (upd H p o) := by
  obtain ⟨hF, hr⟩ := c.new hp
  have e := same_upd (o := o) hF
  refine ⟨⟨same_upd2 c.ex, c.len, c.nd, fun k a x h1 h2 => ?_⟩, ⟨e, ⟨[], by simp, fun _ h => nomatch h⟩, fun a x h1 _ => ?_, fun a h1 => ?_⟩⟩
  · have ne : a ≠ p := fun z => hr (z ▸ List.mem_of_getElem? h1)
    exact (c.cell k a x h1 h2).grow e (fun z => by rw [upd_ne ne]; exact z) (upd_ne ne)
  · have ne : a ≠ p := ne_of_none h1 hp
    exact ⟨by rw [upd_ne ne]; exact h1, upd_ne ne⟩
  · by_cases z : a = p
    · rw [z, upd_same]; simp
    · rw [upd_ne z]; exact h1
/-- a new cell -/
theorem ConM.cellNew (c : ConM K F ro H m) {p : Addr} (hp : H p = none) {xs : List V} {l : List PyData} (h : IsDs K F xs l) :
    ConM K F (ro ++ [p]) (upd H p (.lst xs)) (m ++ [.lst l]) ∧ Gro F ro H F (ro ++ [p]) (upd H p (.lst xs)) := by
  obtain ⟨hF, hr⟩ := c.new hp
  refine ⟨⟨fun b o e => ?_, by rw [List.length_append, List.length_append, c.len]; rfl, ?_, fun k a x h1 h2 => ?_⟩, ⟨Same.refl F, ⟨[p], rfl, fun a h => ?_⟩, fun a x h1 _ => ?_, fun a h1 => ?_⟩⟩
  · rw [upd_ne (ne_of_none e hF)]; exact c.ex b o e
  · rw [List.nodup_append]
    refine ⟨c.nd, by simp, fun a ha b hb => ?_⟩
    have eb : b = p := by simpa using hb
    subst eb
    exact fun z => hr (z ▸ ha)
  · by_cases hk : k < ro.length
    · rw [List.getElem?_append_left hk] at h1
      rw [List.getElem?_append_left (by rw [← c.len]; exact hk)] at h2
      have ne : a ≠ p := fun z => hr (z ▸ List.mem_of_getElem? h1)
      exact (c.cell k a x h1 h2).grow (Same.refl F) (fun z => z) (upd_ne ne)
    · have e0 : k = ro.length := by
        have := (List.getElem?_eq_some_iff.mp h1).1
        rw [List.length_append] at this
        simp at this
        omega
      subst e0
      rw [List.getElem?_append_right (Nat.le_refl _)] at h1
      rw [c.len, List.getElem?_append_right (Nat.le_refl _)] at h2
      simp at h1 h2
      subst h1 h2
      exact ⟨hF, xs, upd_same, h⟩
  · have ea : a = p := by simpa using h
    rw [ea]; exact hp
  · have ne : a ≠ p := ne_of_none h1 hp
    exact ⟨by rw [upd_ne ne]; exact h1, rfl⟩
  · by_cases z : a = p
    · rw [z, upd_same]; simp
    · rw [upd_ne z]; exact h1
/-- a new cell -/
theorem ConM.dctNew (c : ConM K F ro H m) {p : Addr} (hp : H p = none) {xs : List (Key × V)} {l : List (PyData × PyData)} (h : IsDk K F xs l) :
    ConM K F (ro ++ [p]) (upd H p (.dK xs)) (m ++ [.dct l]) ∧ Gro F ro H F (ro ++ [p]) (upd H p (.dK xs)) := by
  obtain ⟨hF, hr⟩ := c.new hp
  refine ⟨⟨fun b o e => ?_, by rw [List.length_append, List.length_append, c.len]; rfl, ?_, fun k a x h1 h2 => ?_⟩, ⟨Same.refl F, ⟨[p], rfl, fun a h => ?_⟩, fun a x h1 _ => ?_, fun a h1 => ?_⟩⟩
  · rw [upd_ne (ne_of_none e hF)]; exact c.ex b o e
  · rw [List.nodup_append]
    refine ⟨c.nd, by simp, fun a ha b hb => ?_⟩
    have eb : b = p := by simpa using hb
    subst eb
    exact fun z => hr (z ▸ ha)
  · by_cases hk : k < ro.length
    · rw [List.getElem?_append_left hk] at h1
      rw [List.getElem?_append_left (by rw [← c.len]; exact hk)] at h2
      have ne : a ≠ p := fun z => hr (z ▸ List.mem_of_getElem? h1)
      exact (c.cell k a x h1 h2).grow (Same.refl F) (fun z => z) (upd_ne ne)
    · have e0 : k = ro.length := by
        have := (List.getElem?_eq_some_iff.mp h1).1
        rw [List.length_append] at this
        simp at this
        omega
      subst e0
      rw [List.getElem?_append_right (Nat.le_refl _)] at h1
      rw [c.len, List.getElem?_append_right (Nat.le_refl _)] at h2
      simp at h1 h2
      subst h1 h2
      exact ⟨hF, xs, upd_same, h⟩
  · have ea : a = p := by simpa using h
    rw [ea]; exact hp
  · have ne : a ≠ p := ne_of_none h1 hp
    exact ⟨by rw [upd_ne ne]; exact h1, rfl⟩
  · by_cases z : a = p
    · rw [z, upd_same]; simp
    · rw [upd_ne z]; exact h1
theorem nd_ix {α : Type} {l : List α} (hN : l.Nodup) {i j : Nat} {x : α} (a : l[i]? = some x) (b : l[j]? = some x) : i = j := by
  obtain ⟨h1, e1⟩ := List.getElem?_eq_some_iff.mp a
  obtain ⟨h2, e2⟩ := List.getElem?_eq_some_iff.mp b
  exact (List.getElem_inj hN).mp (e1.trans e2.symm)
/-- a cell's list is changed -/
theorem ConM.cellSet (c : ConM K F ro H m) {k : Nat} {p : Addr} (h1 : ro[k]? = some p) {l l' : List PyData} (h2 : m[k]? = some (.lst l)) {xs : List V} (h : IsDs K F xs l') :
    ConM K F ro (upd H p (.lst xs)) (m.set k (.lst l')) ∧ Gro F ro H F ro (upd H p (.lst xs)) := by
  obtain ⟨hF, xs0, hx, _⟩ : CellOk K F H p (.lst l) := c.cell k p _ h1 h2
  refine ⟨⟨fun b o e => ?_, by rw [List.length_set]; exact c.len, c.nd, fun j a x g1 g2 => ?_⟩, ⟨Same.refl F, ⟨[], by simp, fun _ h => nomatch h⟩, fun a x g1 g2 => ?_, fun a g1 => ?_⟩⟩
  · rw [upd_ne (ne_of_none e hF)]; exact c.ex b o e
  · by_cases hj : k = j
    · subst hj
      rw [h1] at g1; cases g1
      rw [List.getElem?_set_self (List.getElem?_eq_some_iff.mp h2).1] at g2; cases g2
      exact ⟨hF, xs, upd_same, h⟩
    · rw [List.getElem?_set_ne hj] at g2
      have ne : a ≠ p := fun z => hj (nd_ix c.nd h1 (z ▸ g1))
      exact (c.cell j a x g1 g2).grow (Same.refl F) (fun z => z) (upd_ne ne)
  · have ne : a ≠ p := fun z => g2 (z ▸ List.mem_of_getElem? h1)
    exact ⟨by rw [upd_ne ne]; exact g1, rfl⟩
  · by_cases z : a = p
    · rw [z, upd_same]; simp
    · rw [upd_ne z]; exact g1
/-- a cell's list is changed -/
theorem ConM.dctSet (c : ConM K F ro H m) {k : Nat} {p : Addr} (h1 : ro[k]? = some p) {l l' : List (PyData × PyData)} (h2 : m[k]? = some (.dct l)) {xs : List (Key × V)} (h : IsDk K F xs l') :
    ConM K F ro (upd H p (.dK xs)) (m.set k (.dct l')) ∧ Gro F ro H F ro (upd H p (.dK xs)) := by
  obtain ⟨hF, xs0, hx, _⟩ : CellOk K F H p (.dct l) := c.cell k p _ h1 h2
  refine ⟨⟨fun b o e => ?_, by rw [List.length_set]; exact c.len, c.nd, fun j a x g1 g2 => ?_⟩, ⟨Same.refl F, ⟨[], by simp, fun _ h => nomatch h⟩, fun a x g1 g2 => ?_, fun a g1 => ?_⟩⟩
  · rw [upd_ne (ne_of_none e hF)]; exact c.ex b o e
  · by_cases hj : k = j
    · subst hj
      rw [h1] at g1; cases g1
      rw [List.getElem?_set_self (List.getElem?_eq_some_iff.mp h2).1] at g2; cases g2
      exact ⟨hF, xs, upd_same, h⟩
    · rw [List.getElem?_set_ne hj] at g2
      have ne : a ≠ p := fun z => hj (nd_ix c.nd h1 (z ▸ g1))
      exact (c.cell j a x g1 g2).grow (Same.refl F) (fun z => z) (upd_ne ne)
  · have ne : a ≠ p := fun z => g2 (z ▸ List.mem_of_getElem? h1)
    exact ⟨by rw [upd_ne ne]; exact g1, rfl⟩
  · by_cases z : a = p
    · rw [z, upd_same]; simp
    · rw [upd_ne z]; exact g1
/-- a cell becomes known, for good -/
theorem ConM.freeze (c : ConM K F ro H m) {k : Nat} {p : Addr} (h1 : ro[k]? = some p) {l : List PyData} (h2 : m[k]? = some (.lst l)) :
    ∃ F', ConM K F' ro H (m.set k .dead) ∧ Gro F ro H F' ro H ∧ IsD K F' (.ref p) (.list l) := by
  obtain ⟨hF, xs, hx, hd⟩ : CellOk K F H p (.lst l) := c.cell k p _ h1 h2
  have e := same_upd (o := .lst xs) hF
  refine ⟨upd F p (.lst xs), ⟨fun b o q => ?_, by rw [List.length_set]; exact c.len, c.nd, fun j a x g1 g2 => ?_⟩, ⟨e, ⟨[], by simp, fun _ h => nomatch h⟩, fun a x g1 g2 => ?_, fun a g1 => g1⟩, .lst upd_same (IsDs.mono e hd)⟩
  · by_cases hb : b = p
    · subst hb; rw [upd_same] at q; cases q; exact hx
    · rw [upd_ne hb] at q; exact c.ex b o q
  · by_cases hj : k = j
    · subst hj
      rw [h1] at g1; cases g1
      rw [List.getElem?_set_self (List.getElem?_eq_some_iff.mp h2).1] at g2; cases g2
      show H p ≠ none
      rw [hx]; simp
    · rw [List.getElem?_set_ne hj] at g2
      have ne : a ≠ p := fun z => hj (nd_ix c.nd h1 (z ▸ g1))
      exact (c.cell j a x g1 g2).grow e (fun z => by rw [upd_ne ne]; exact z) rfl
  · have ne : a ≠ p := fun z => g2 (z ▸ List.mem_of_getElem? h1)
    exact ⟨g1, upd_ne ne⟩
/-- a cell becomes known, for good -/
theorem ConM.dctFreeze (c : ConM K F ro H m) {k : Nat} {p : Addr} (h1 : ro[k]? = some p) {l : List (PyData × PyData)} (h2 : m[k]? = some (.dct l)) :
    ∃ F', ConM K F' ro H (m.set k .dead) ∧ Gro F ro H F' ro H ∧ IsD K F' (.ref p) (.dict l) := by
  obtain ⟨hF, xs, hx, hd⟩ : CellOk K F H p (.dct l) := c.cell k p _ h1 h2
  have e := same_upd (o := .dK xs) hF
  refine ⟨upd F p (.dK xs), ⟨fun b o q => ?_, by rw [List.length_set]; exact c.len, c.nd, fun j a x g1 g2 => ?_⟩, ⟨e, ⟨[], by simp, fun _ h => nomatch h⟩, fun a x g1 g2 => ?_, fun a g1 => g1⟩, .dct upd_same (IsDk.mono e hd)⟩
  · by_cases hb : b = p
    · subst hb; rw [upd_same] at q; cases q; exact hx
    · rw [upd_ne hb] at q; exact c.ex b o q
  · by_cases hj : k = j
    · subst hj
      rw [h1] at g1; cases g1
      rw [List.getElem?_set_self (List.getElem?_eq_some_iff.mp h2).1] at g2; cases g2
      show H p ≠ none
      rw [hx]; simp
    · rw [List.getElem?_set_ne hj] at g2
      have ne : a ≠ p := fun z => hj (nd_ix c.nd h1 (z ▸ g1))
      exact (c.cell j a x g1 g2).grow e (fun z => by rw [upd_ne ne]; exact z) rfl
  · have ne : a ≠ p := fun z => g2 (z ▸ List.mem_of_getElem? h1)
    exact ⟨g1, upd_ne ne⟩
/-- the cells behind the n-th are forgotten -/
theorem ConM.cut (c : ConM K F (ro ++ ro') H m) : ConM K F ro H (m.take ro.length) := by
  have hl := c.len
  rw [List.length_append] at hl
  refine ⟨c.ex, by rw [List.length_take]; omega, (List.nodup_append.mp c.nd).1, fun k a x h1 h2 => ?_⟩
  have hk := (List.getElem?_eq_some_iff.mp h1).1
  rw [List.getElem?_take_of_lt hk] at h2
  exact c.cell k a x (by rw [List.getElem?_append_left hk]; exact h1) h2
theorem Gro.cut {t : List Addr} (g : Gro F ro H F' (ro ++ t) H') : Gro F ro H F' ro H' := ⟨g.ex, ⟨[], by simp, fun _ h => nomatch h⟩, g.fr, g.st⟩

/-- the list of a value -/
def asL (m : Sto) : U → Option (List PyData)
  | .v (.list l) => some l
  | .r k => match m[k]? with
    | some (.lst l) => some l
    | _ => none
  | _ => none
theorem asL_own (c : ConM K F ro H m) {u : U} {v : V} (h : IsU K F ro u v) {l : List PyData} (e : asL m u = some l) : ∃ a xs, v = .ref a ∧ H a = some (.lst xs) ∧ IsDs K F xs l := by
  cases u with
  | v d =>
    cases d <;> simp [asL] at e
    subst e
    cases h with
    | lst h1 h2 => exact ⟨_, _, rfl, c.ex _ _ h1, h2⟩
  | r k =>
    obtain ⟨a, h1, h2⟩ := h
    simp only [asL] at e
    cases q : m[k]? with
    | none => rw [q] at e; cases e
    | some x =>
      rw [q] at e
      cases x with
      | dead => cases e
      | dct l' => cases e
      | lst l' =>
        cases e
        obtain ⟨_, xs, hx, hd⟩ : CellOk K F H a (.lst l) := c.cell k a _ h1 q
        exact ⟨a, xs, h2, hx, hd⟩
  | s ns => simp [asL] at e
  | o t => simp [asL] at e
theorem asL_sq (c : ConM K F ro H m) {u : U} {v : V} (h : IsU K F ro u v) {l : List PyData} (e : asL m u = some l) : ∃ a xs, v = .ref a ∧ Rd H a (.lst xs) ∧ IsDs K F xs l :=
  let ⟨a, xs, h1, h2, h3⟩ := asL_own c h e
  ⟨a, xs, h1, Or.inl h2, h3⟩
/-- the list of a value, the script too -/
def asQ (m : Sto) : U → Option (List PyData)
  | .s ns => some (ns.map .int)
  | u => asL m u
theorem asQ_sq (c : ConM K F ro H m) {u : U} {v : V} (h : IsU K F ro u v) {l : List PyData} (e : asQ m u = some l) : ∃ a xs, v = .ref a ∧ SqL K H a xs ∧ IsDs K F xs l := by
  unfold asQ at e
  split at e
  · rename_i ns
    cases e
    obtain ⟨a, e, q⟩ := h
    exact ⟨a, _, e, c.ex.seq q, IsDs.of_ints ns⟩
  · obtain ⟨a, xs, h1, h2, h3⟩ := asL_sq c h e
    exact ⟨a, xs, h1, .inl h2, h3⟩
/-- the data of a value -/
def asD (m : Sto) : U → Option PyData
  | .v d => some d
  | .r k => match m[k]? with
    | some (.lst l) => some (.list l)
    | some (.dct l) => some (.dict l)
    | _ => none
  | .s _ => none
  | .o _ => none
theorem asD_is (c : ConM K F ro H m) {u : U} {v : V} (h : IsU K F ro u v) {d : PyData} (e : asD m u = some d) : IsD K H v d := by
  cases u with
  | v d' =>
    cases e
    exact IsD.mono c.ex h
  | r k =>
    obtain ⟨a, h1, h2⟩ := h
    simp only [asD] at e
    cases q : m[k]? with
    | none => rw [q] at e; cases e
    | some x =>
      rw [q] at e
      cases x with
      | dead => cases e
      | lst l' =>
        cases e
        obtain ⟨_, xs, hx, hd⟩ : CellOk K F H a (.lst l') := c.cell k a _ h1 q
        subst h2
        exact .lst hx (IsDs.mono c.ex hd)
      | dct l' =>
        cases e
        obtain ⟨_, xs, hx, hd⟩ : CellOk K F H a (.dct l') := c.cell k a _ h1 q
        subst h2
        exact .dct hx (IsDk.mono c.ex hd)
  | s ns => cases e
  | o t => cases e
end
end Z
/-! Z2: readings without addresses, expressions. -/
namespace Z
open PySem PySem.Spec PyProof.Rows L2

abbrev QA := U → Sto → Prop
abbrev AE := En → Sto → QA → Prop
abbrev AT := En → Sto → (Bool → Sto → Prop) → Prop
abbrev AA := En → Sto → (List U → Sto → Prop) → Prop
structure AEnds where
  nx : En → Sto → Prop
  rt : QA
  bk : En → Sto → Prop := fun _ _ => False
  ct : En → Sto → Prop := fun _ _ => False
abbrev AS := AEnds → En → Sto → Prop

section
variable (K : PySem.W.Frag) (F : Hp) (ro : List Addr) (H : Hp)
def Post (Qa : QA) (Q : VK) : Prop := ∀ (F' : Hp) (ro' : List Addr) (H' : Hp) (u : U) (v : V) (m' : Sto), Gro F ro H F' ro' H' → ConM K F' ro' H' m' → IsU K F' ro' u v → Qa u m' → Q v H'
def PostT (Qa : Bool → Sto → Prop) (Q : Bool → Hp → Prop) : Prop := ∀ (F' : Hp) (ro' : List Addr) (H' : Hp) (b : Bool) (m' : Sto), Gro F ro H F' ro' H' → ConM K F' ro' H' m' → Qa b m' → Q b H'
def PostA (Qa : List U → Sto → Prop) (Q : List V → Hp → Prop) : Prop := ∀ (F' : Hp) (ro' : List Addr) (H' : Hp) (us : List U) (vs : List V) (m' : Sto), Gro F ro H F' ro' H' → ConM K F' ro' H' m' → IsUs K F' ro' us vs → Qa us m' → Q vs H'
def PostS (Qa : En → Sto → Prop) (Q : L2.St → Hp → Prop) : Prop := ∀ (F' : Hp) (ro' : List Addr) (H' : Hp) (σ' : L2.St) (E' : En) (m' : Sto), Gro F ro H F' ro' H' → ConM K F' ro' H' m' → ConE K F' ro' σ' E' → Qa E' m' → Q σ' H'
structure Mat (Da : AEnds) (D : Ends) : Prop where
  nx : PostS K F ro H Da.nx D.nx
  rt : Post K F ro H Da.rt D.rt
  bk : PostS K F ro H Da.bk D.bk
  ct : PostS K F ro H Da.ct D.ct
end
def cE (K : PySem.W.Frag) (f : AE) : TE := fun σ H Q => ∃ F ro E m Qa, ConM K F ro H m ∧ ConE K F ro σ E ∧ f E m Qa ∧ Post K F ro H Qa Q
def cT (K : PySem.W.Frag) (f : AT) : TT := fun σ H Q => ∃ F ro E m Qa, ConM K F ro H m ∧ ConE K F ro σ E ∧ f E m Qa ∧ PostT K F ro H Qa Q
def cA (K : PySem.W.Frag) (f : AA) : TA := fun σ H Q => ∃ F ro E m Qa, ConM K F ro H m ∧ ConE K F ro σ E ∧ f E m Qa ∧ PostA K F ro H Qa Q
def cS (K : PySem.W.Frag) (g : AS) : TS := fun D σ H => ∃ F ro E m Da, ConM K F ro H m ∧ ConE K F ro σ E ∧ g Da E m ∧ Mat K F ro H Da D
abbrev DE (X : Cx) (e : Expr) (f : AE) : Prop := PE X e (cE X.K f)
abbrev DT (X : Cx) (e : Expr) (f : AT) : Prop := PT X e (cT X.K f)
abbrev DW (X : Cx) (e : Expr) (f : AT) : Prop := PW X e (cT X.K f)
abbrev DA (X : Cx) (e : List Expr) (f : AA) : Prop := PA X e (cA X.K f)
abbrev DS (X : Cx) (e : Stmt) (f : AS) : Prop := PS X e (cS X.K f)
abbrev DSs (X : Cx) (e : List Stmt) (f : AS) : Prop := PSs X e (cS X.K f)

section
variable {X : Cx}
theorem pe_imp {e : Expr} {t t' : TE} (h : PE X e t) (i : ∀ σ H Q, t' σ H Q → t σ H Q) : PE X e t' := ⟨fun pins s σ H Q I hw => h.run pins s σ H Q I (i σ H Q hw)⟩
theorem pt_imp {e : Expr} {t t' : TT} (h : PT X e t) (i : ∀ σ H Q, t' σ H Q → t σ H Q) : PT X e t' := ⟨fun pins s σ H Q I hw => h.run pins s σ H Q I (i σ H Q hw)⟩
theorem pw_imp {e : Expr} {t t' : TT} (h : PW X e t) (i : ∀ σ H Q, t' σ H Q → t σ H Q) : PW X e t' := ⟨fun w pins s σ H Q I hw => h.run w pins s σ H Q I (i σ H Q hw)⟩
theorem pa_imp {e : List Expr} {t t' : TA} (h : PA X e t) (i : ∀ σ H Q, t' σ H Q → t σ H Q) : PA X e t' := ⟨fun p pins s σ H Q I hw => h.run p pins s σ H Q I (i σ H Q hw)⟩
theorem ps_imp {e : Stmt} {t t' : TS} (h : PS X e t) (i : ∀ D σ H, t' D σ H → t D σ H) : PS X e t' := ⟨fun pins s σ H D I hw => h.run pins s σ H D I (i D σ H hw)⟩
theorem pss_imp {e : List Stmt} {t t' : TS} (h : PSs X e t) (i : ∀ D σ H, t' D σ H → t D σ H) : PSs X e t' := ⟨fun pins s σ H D I hw => h.run pins s σ H D I (i D σ H hw)⟩
end
section
variable {K : PySem.W.Frag} {F F1 H H1 : Hp} {ro ro1 : List Addr}
theorem Post.at {Qa : QA} {Q : VK} (p : Post K F ro H Qa Q) (g : Gro F ro H F1 ro1 H1) : Post K F1 ro1 H1 Qa Q := fun F' ro' H' u v m' g' => p F' ro' H' u v m' (g.trans g')
theorem PostT.at {Qa : Bool → Sto → Prop} {Q : Bool → Hp → Prop} (p : PostT K F ro H Qa Q) (g : Gro F ro H F1 ro1 H1) : PostT K F1 ro1 H1 Qa Q := fun F' ro' H' b m' g' => p F' ro' H' b m' (g.trans g')
theorem PostA.at {Qa : List U → Sto → Prop} {Q : List V → Hp → Prop} (p : PostA K F ro H Qa Q) (g : Gro F ro H F1 ro1 H1) : PostA K F1 ro1 H1 Qa Q := fun F' ro' H' u v m' g' => p F' ro' H' u v m' (g.trans g')
theorem PostS.at {Qa : En → Sto → Prop} {Q : L2.St → Hp → Prop} (p : PostS K F ro H Qa Q) (g : Gro F ro H F1 ro1 H1) : PostS K F1 ro1 H1 Qa Q := fun F' ro' H' σ' E' m' g' => p F' ro' H' σ' E' m' (g.trans g')
theorem Mat.at {Da : AEnds} {D : Ends} (p : Mat K F ro H Da D) (g : Gro F ro H F1 ro1 H1) : Mat K F1 ro1 H1 Da D := ⟨p.nx.at g, p.rt.at g, p.bk.at g, p.ct.at g⟩
/-- a value at hand -/
theorem Post.go {Qa : QA} {Q : VK} (p : Post K F ro H Qa Q) {m : Sto} {u : U} {v : V} (c : ConM K F ro H m) (h : IsU K F ro u v) (q : Qa u m) : Q v H := p F ro H u v m Gro.refl c h q
theorem Post.god {Qa : QA} {Q : VK} (p : Post K F ro H Qa Q) {m : Sto} {d : PyData} {v : V} (c : ConM K F ro H m) (h : IsD K F v d) (q : Qa (.v d) m) : Q v H := p F ro H (.v d) v m Gro.refl c h q
end

/-! ### names, constants -/
def dVar (i : Nat) : AE := fun E m Q => match E[i]? with
  | some (some u) => Q u m
  | _ => False
def dC (d : PyData) : AE := fun _ m Q => Q (.v d) m
section
variable {X : Cx}
theorem de_var {e : Expr} {i : Nat} (h : PE X e (tVar i)) : DE X e (dVar i) := pe_imp h fun σ H Q ⟨F, ro, E, m, Qa, c, ce, hf, p⟩ => by
  unfold dVar at hf
  split at hf
  · rename_i u he
    obtain ⟨v, h1, h2⟩ := ce.val i u he
    exact ⟨v, h1, p.go c h2 hf⟩
  · exact hf.elim
theorem dv (i : Nat) {x : Str} {pos : Pos} (hN : X.N[i]? = some x := by rfl) (hv : Vis X.env.scope x := by first | exact Or.inl rfl | exact Or.inr (Or.inl rfl) | exact Or.inr (Or.inr rfl)) (hd : (x == ("__debug__" : Str)) = false := by decide)
    (hcd : (x == ("__classdict__" : Str)) = false := by decide) : DE X (.Name x pos) (dVar i) := de_var (pe_var hN hv hd hcd)
theorem de_c {e : Expr} {v : V} {d : PyData} (h : PE X e (tC v)) (hd : ∀ K F, IsD K F v d) : DE X e (dC d) := pe_imp h fun σ H Q ⟨F, ro, E, m, Qa, c, ce, hf, p⟩ => p.god c (hd X.K F) hf
theorem de_int {i j pos} : DE X (.Constant (.int i) j pos) (dC (.int i)) := de_c pe_int fun _ _ => .int i
theorem de_bl {b j pos} : DE X (.Constant (.bool b) j pos) (dC (.bool b)) := de_c pe_bl fun _ _ => .bl b
theorem de_non {j pos} : DE X (.Constant .none j pos) (dC .none) := de_c pe_non fun _ _ => .non
theorem de_str {x j pos} : DE X (.Constant (.str x) j pos) (dC (.str x)) := de_c pe_str fun _ _ => .str x
theorem de_gint {x : Str} {i : Int} {t : Tok} {pos : Pos} (hm : X.mg x = some (.int i t)) (hg : Gl X x := by rfl) (hd : (x == ("__debug__" : Str)) = false := by decide) : DE X (.Name x pos) (dC (.int i)) := de_c (v := .int i) (pe_glob hg hm ⟨_, rfl⟩ hd) fun _ _ => .int i
theorem de_gstr {x : Str} {i : Str} {t : Tok} {pos : Pos} (hm : X.mg x = some (.str i t)) (hg : Gl X x := by rfl) (hd : (x == ("__debug__" : Str)) = false := by decide) : DE X (.Name x pos) (dC (.str i)) := de_c (v := .str i) (pe_glob hg hm ⟨_, rfl⟩ hd) fun _ _ => .str i
end

/-! ### operators by values -/
abbrev R2A := U → U → Sto → QA → Prop
def Sim2 (K : PySem.W.Frag) (r : R2) (f : R2A) : Prop := ∀ (F : Hp) (ro : List Addr) (H : Hp) (m : Sto) (a b : U) (v w : V) (Q : VK) (Qa : QA), ConM K F ro H m → IsU K F ro a v → IsU K F ro b w → f a b m Qa → Post K F ro H Qa Q → r v w H Q
def Sim1 (K : PySem.W.Frag) (r : V → Hp → VK → Prop) (f : U → Sto → QA → Prop) : Prop := ∀ (F : Hp) (ro : List Addr) (H : Hp) (m : Sto) (a : U) (v : V) (Q : VK) (Qa : QA), ConM K F ro H m → IsU K F ro a v → f a m Qa → Post K F ro H Qa Q → r v H Q
def SimC (K : PySem.W.Frag) (r : List V → Hp → VK → Prop) (f : List U → Sto → QA → Prop) : Prop := ∀ (F : Hp) (ro : List Addr) (H : Hp) (m : Sto) (us : List U) (vs : List V) (Q : VK) (Qa : QA), ConM K F ro H m → IsUs K F ro us vs → f us m Qa → Post K F ro H Qa Q → r vs H Q
def dOp (f : R2A) (ta tb : AE) : AE := fun E m Q => ta E m fun a m1 => tb E m1 fun b m2 => f a b m2 Q
def dUn (f : U → Sto → QA → Prop) (ta : AE) : AE := fun E m Q => ta E m fun a m1 => f a m1 Q
/-- a value that is a bool, as a test -/
def dB (t : AE) : AT := fun E m Q => t E m fun u m1 => match u with
  | .v (.bool b) => Q b m1
  | _ => False
section
variable {X : Cx} {a b c : Expr} {fa fb fc : AE} {pos : Pos}
theorem tOp_sim {K : PySem.W.Frag} {r : R2} {f : R2A} (hs : Sim2 K r f) (σ : L2.St) (H : Hp) (Q : VK) (h : cE K (dOp f fa fb) σ H Q) : tOp r (cE K fa) (cE K fb) σ H Q := by
  obtain ⟨F, ro, E, m, Qa, cm, ce, hf, p⟩ := h
  refine ⟨F, ro, E, m, _, cm, ce, hf, fun F1 ro1 H1 u v m1 g1 c1 i1 h1 => ?_⟩
  refine ⟨F1, ro1, E, m1, _, c1, ce.mono g1, h1, fun F2 ro2 H2 u2 w m2 g2 c2 i2 h2 => ?_⟩
  exact hs F2 ro2 H2 m2 u u2 v w Q Qa c2 (i1.mono g2) i2 h2 (p.at (g1.trans g2))
theorem de_op {op : Operator} {r : R2} {f : R2A} (ho : OpR X (binaryOp op) r) (hs : Sim2 X.K r f) (ha : DE X a fa) (hb : DE X b fb) : DE X (.BinOp a op b pos) (dOp f fa fb) :=
  pe_imp (pe_op ho ha hb) (tOp_sim hs)
theorem de_cmp {op : CmpOp} {r : R2} {f : R2A} (ho : OpR X (compareOp op) r) (hs : Sim2 X.K r f) (ha : DE X a fa) (hb : DE X b fb) (hm : behindInMarks op b = false) : DE X (.Compare a [op] [b] pos) (dOp f fa fb) :=
  pe_imp (pe_cmpR ho ha hb hm) (tOp_sim hs)
theorem de_un {op : UnaryOp} {r : V → Hp → VK → Prop} {f : U → Sto → QA → Prop} (ho : UnR X (unaryOp op) r) (hs : Sim1 X.K r f) (ha : DE X a fa) : DE X (.UnaryOp op a pos) (dUn f fa) :=
  pe_imp (pe_un ho ha) fun σ H Q ⟨F, ro, E, m, Qa, cm, ce, hf, p⟩ =>
    ⟨F, ro, E, m, _, cm, ce, hf, fun F1 ro1 H1 u v m1 g1 c1 i1 h1 => hs F1 ro1 H1 m1 u v Q Qa c1 i1 h1 (p.at g1)⟩
theorem dB_sim {K : PySem.W.Frag} {f : AE} (σ : L2.St) (H : Hp) (Q : Bool → Hp → Prop) (h : cT K (dB f) σ H Q) : cE K f σ H fun x H' => ∃ k, x = .bl k ∧ Q k H' := by
  obtain ⟨F, ro, E, m, Qa, cm, ce, hf, p⟩ := h
  refine ⟨F, ro, E, m, _, cm, ce, hf, fun F1 ro1 H1 u v m1 g1 c1 i1 h1 => ?_⟩
  revert h1
  split
  · rename_i b
    intro h1
    cases i1
    exact ⟨b, rfl, p F1 ro1 H1 b m1 g1 c1 h1⟩
  · exact fun h1 => h1.elim
/-- an expression that gives a bool, as a test: not for comparisons, and, or, not -/
theorem dt_val {e : Expr} {f : AE} (h : DE X e f) (he : ∀ whole, isTrue e X.env whole = (do let v ← whole; standAt e.pos; holding [v] (truthy v)) := by intro _; rfl) : DT X e (dB f) :=
  pt_imp (pt_val h he) fun σ H Q h => dB_sim σ H Q h
theorem dt_cmp {op : CmpOp} {r : R2} {f : R2A} (ho : OpR X (compareOp op) r) (hs : Sim2 X.K r f) (ha : DE X a fa) (hb : DE X b fb) (hm : behindInMarks op b = false) : DT X (.Compare a [op] [b] pos) (dB (dOp f fa fb)) :=
  pt_imp (pt_cmpR ho ha hb hm) fun σ H Q h => by
    obtain ⟨F, ro, E, m, Qa, cm, ce, hf, p⟩ := h
    refine tOp_sim (fa := fa) (fb := fb) (f := f) hs σ H (fun x H' => ∃ k, x = .bl k ∧ Q k H') ⟨F, ro, E, m, _, cm, ce, hf, fun F1 ro1 H1 u v m1 g1 c1 i1 h1 => ?_⟩
    revert h1
    split
    · rename_i b
      intro h1
      cases i1
      exact ⟨b, rfl, p F1 ro1 H1 b m1 g1 c1 h1⟩
    · exact fun h1 => h1.elim
/-- a < b < c -/
def dChain (f g : R2A) (ta tb tc : AE) : AE := fun E m Q => ta E m fun x m1 => tb E m1 fun y m2 => f x y m2 fun z m3 => match z with
  | .v (.bool k) => if k = true then tc E m3 fun w m4 => g y w m4 Q else Q (.v (.bool false)) m3
  | _ => False
theorem dChain_sim {K : PySem.W.Frag} {r r' : R2} {f g : R2A} (hs : Sim2 K r f) (hs' : Sim2 K r' g) (σ : L2.St) (H : Hp) (Q : VK) (h : cE K (dChain f g fa fb fc) σ H Q) : tChain r r' (cE K fa) (cE K fb) (cE K fc) σ H Q := by
  obtain ⟨F, ro, E, m, Qa, cm, ce, hf, p⟩ := h
  refine ⟨F, ro, E, m, _, cm, ce, hf, fun F1 ro1 H1 u v m1 g1 c1 i1 h1 => ?_⟩
  refine ⟨F1, ro1, E, m1, _, c1, ce.mono g1, h1, fun F2 ro2 H2 u2 w m2 g2 c2 i2 h2 => ?_⟩
  refine hs F2 ro2 H2 m2 u u2 v w _ _ c2 (i1.mono g2) i2 h2 fun F3 ro3 H3 u3 z m3 g3 c3 i3 h3 => ?_
  revert h3
  split
  · rename_i k
    intro h3
    cases i3
    refine ⟨k, rfl, ?_⟩
    cases k with
    | true =>
      rw [if_pos rfl] at h3 ⊢
      refine ⟨F3, ro3, E, m3, _, c3, ce.mono (g1.trans (g2.trans g3)), h3, fun F4 ro4 H4 u4 y m4 g4 c4 i4 h4 => ?_⟩
      exact hs' F4 ro4 H4 m4 u2 u4 w y Q Qa c4 (i2.mono (g3.trans g4)) i4 h4 (p.at (g1.trans (g2.trans (g3.trans g4))))
    | false =>
      rw [if_neg Bool.false_ne_true] at h3 ⊢
      exact (p.at (g1.trans (g2.trans g3))).god c3 (IsD.bl false) h3
  · exact fun h3 => h3.elim
theorem de_chain {op op' : CmpOp} {r r' : R2} {f g : R2A} (ho : OpR X (compareOp op) r) (hs : Sim2 X.K r f) (ho' : OpR X (compareOp op') r') (hs' : Sim2 X.K r' g) (ha : DE X a fa) (hb : DE X b fb) (hc : DE X c fc)
    (hm : lastMarks [op, op'] [b, c] = false := by rfl) : DE X (.Compare a [op, op'] [b, c] pos) (dChain f g fa fb fc) :=
  pe_imp (pe_chain ho ho' ha hb hc (hm := hm)) (dChain_sim hs hs')
theorem dt_chain {op op' : CmpOp} {r r' : R2} {f g : R2A} (ho : OpR X (compareOp op) r) (hs : Sim2 X.K r f) (ho' : OpR X (compareOp op') r') (hs' : Sim2 X.K r' g) (ha : DE X a fa) (hb : DE X b fb) (hc : DE X c fc)
    (hm : lastMarks [op, op'] [b, c] = false := by rfl) : DT X (.Compare a [op, op'] [b, c] pos) (dB (dChain f g fa fb fc)) :=
  pt_imp (pt_chain ho ho' ha hb hc (hm := hm)) fun σ H Q h => by
    obtain ⟨F, ro, E, m, Qa, cm, ce, hf, p⟩ := h
    refine dChain_sim (fa := fa) (fb := fb) (fc := fc) hs hs' σ H (fun x H' => ∃ k, x = .bl k ∧ Q k H') ⟨F, ro, E, m, _, cm, ce, hf, fun F1 ro1 H1 u v m1 g1 c1 i1 h1 => ?_⟩
    revert h1
    split
    · rename_i b
      intro h1
      cases i1
      exact ⟨b, rfl, p F1 ro1 H1 b m1 g1 c1 h1⟩
    · exact fun h1 => h1.elim

/-! ### and, or, not, if -/
def dAnd (t u : AT) : AT := fun E m Q => t E m fun c m1 => if c = true then u E m1 Q else Q false m1
def dOr (t u : AT) : AT := fun E m Q => t E m fun c m1 => if c = true then Q true m1 else u E m1 Q
def dNot (t : AT) : AT := fun E m Q => t E m fun c m1 => Q (!c) m1
variable {gA gB : AT} {rest : List Expr}
theorem dw_and1 (ha : DT X a gA) : DW X (.BoolOp .And [a] pos) gA := pw_and1 ha
theorem dw_or1 (ha : DT X a gA) : DW X (.BoolOp .Or [a] pos) gA := pw_or1 ha
theorem dw_and (ha : DT X a gA) (hb : DW X (.BoolOp .And (b :: rest) pos) gB) : DW X (.BoolOp .And (a :: b :: rest) pos) (dAnd gA gB) := pw_imp (pw_and ha hb) fun σ H Q ⟨F, ro, E, m, Qa, cm, ce, hf, p⟩ =>
  ⟨F, ro, E, m, _, cm, ce, hf, fun F1 ro1 H1 c m1 g1 c1 h1 => by
    cases c with
    | true => exact ⟨F1, ro1, E, m1, Qa, c1, ce.mono g1, h1, p.at g1⟩
    | false => exact p F1 ro1 H1 false m1 g1 c1 h1⟩
theorem dw_or (ha : DT X a gA) (hb : DW X (.BoolOp .Or (b :: rest) pos) gB) : DW X (.BoolOp .Or (a :: b :: rest) pos) (dOr gA gB) := pw_imp (pw_or ha hb) fun σ H Q ⟨F, ro, E, m, Qa, cm, ce, hf, p⟩ =>
  ⟨F, ro, E, m, _, cm, ce, hf, fun F1 ro1 H1 c m1 g1 c1 h1 => by
    cases c with
    | true => exact p F1 ro1 H1 true m1 g1 c1 h1
    | false => exact ⟨F1, ro1, E, m1, Qa, c1, ce.mono g1, h1, p.at g1⟩⟩
theorem dt_not (ha : DT X a gA) : DT X (.UnaryOp .Not a pos) (dNot gA) := pt_imp (pt_not ha) fun σ H Q ⟨F, ro, E, m, Qa, cm, ce, hf, p⟩ =>
  ⟨F, ro, E, m, _, cm, ce, hf, fun F1 ro1 H1 c m1 g1 c1 h1 => p F1 ro1 H1 (!c) m1 g1 c1 h1⟩
/-- as values (bools) -/
def dAndV (t u : AE) : AE := fun E m Q => t E m fun x m1 => match x with
  | .v (.bool c) => if c = true then u E m1 Q else Q (.v (.bool false)) m1
  | _ => False
def dOrV (t u : AE) : AE := fun E m Q => t E m fun x m1 => match x with
  | .v (.bool c) => if c = true then Q (.v (.bool true)) m1 else u E m1 Q
  | _ => False
def dNotV (t : AE) : AE := fun E m Q => t E m fun x m1 => match x with
  | .v (.bool c) => Q (.v (.bool (!c))) m1
  | _ => False
theorem de_one {op} (h : DE X a fa) : DE X (.BoolOp op [a] pos) fa := pe_one h
theorem de_and (ha : DE X a fa) (hb : DE X (.BoolOp .And (b :: rest) pos) fb) : DE X (.BoolOp .And (a :: b :: rest) pos) (dAndV fa fb) := pe_imp (pe_and ha hb) fun σ H Q ⟨F, ro, E, m, Qa, cm, ce, hf, p⟩ =>
  ⟨F, ro, E, m, _, cm, ce, hf, fun F1 ro1 H1 u v m1 g1 c1 i1 h1 => by
    revert h1
    dsimp only
    split
    · rename_i c
      intro h1
      cases i1
      refine ⟨c, rfl, ?_⟩
      cases c with
      | true => exact ⟨F1, ro1, E, m1, Qa, c1, ce.mono g1, h1, p.at g1⟩
      | false => exact (p.at g1).god c1 (IsD.bl false) h1
    · exact fun h1 => h1.elim⟩
theorem de_or (ha : DE X a fa) (hb : DE X (.BoolOp .Or (b :: rest) pos) fb) : DE X (.BoolOp .Or (a :: b :: rest) pos) (dOrV fa fb) := pe_imp (pe_or ha hb) fun σ H Q ⟨F, ro, E, m, Qa, cm, ce, hf, p⟩ =>
  ⟨F, ro, E, m, _, cm, ce, hf, fun F1 ro1 H1 u v m1 g1 c1 i1 h1 => by
    revert h1
    dsimp only
    split
    · rename_i c
      intro h1
      cases i1
      refine ⟨c, rfl, ?_⟩
      cases c with
      | true => exact (p.at g1).god c1 (IsD.bl true) h1
      | false => exact ⟨F1, ro1, E, m1, Qa, c1, ce.mono g1, h1, p.at g1⟩
    · exact fun h1 => h1.elim⟩
theorem de_not (ha : DE X a fa) : DE X (.UnaryOp .Not a pos) (dNotV fa) := pe_imp (pe_not ha) fun σ H Q ⟨F, ro, E, m, Qa, cm, ce, hf, p⟩ =>
  ⟨F, ro, E, m, _, cm, ce, hf, fun F1 ro1 H1 u v m1 g1 c1 i1 h1 => by
    revert h1
    dsimp only
    split
    · rename_i c
      intro h1
      cases i1
      exact ⟨c, rfl, (p.at g1).god c1 (IsD.bl (!c)) h1⟩
    · exact fun h1 => h1.elim⟩
def dIf (t : AT) (u w : AE) : AE := fun E m Q => t E m fun c m1 => if c = true then u E m1 Q else w E m1 Q
theorem de_if (hc : DT X c gA) (ha : DE X a fa) (hb : DE X b fb) : DE X (.IfExp c a b pos) (dIf gA fa fb) := pe_imp (pe_ifExp hc ha hb) fun σ H Q ⟨F, ro, E, m, Qa, cm, ce, hf, p⟩ =>
  ⟨F, ro, E, m, _, cm, ce, hf, fun F1 ro1 H1 c m1 g1 c1 h1 => by
    cases c with
    | true => exact ⟨F1, ro1, E, m1, Qa, c1, ce.mono g1, h1, p.at g1⟩
    | false => exact ⟨F1, ro1, E, m1, Qa, c1, ce.mono g1, h1, p.at g1⟩⟩
end

/-! ### arguments, displays -/
def dNil : AA := fun _ m Q => Q [] m
def dCons (t : AE) (u : AA) : AA := fun E m Q => t E m fun x m1 => u E m1 fun xs m2 => Q (x :: xs) m2
/-- all data -/
def allD (m : Sto) : List U → Option (List PyData)
  | [] => some []
  | .v d :: us => (allD m us).map (d :: ·)
  | _ :: _ => none
/-- a new known list, a new cell, a tuple -/
def dLst (t : AA) : AE := fun E m Q => t E m fun us m1 => match allD m1 us with
  | some l => l.length ≤ sizeLine ∧ Q (.v (.list l)) m1
  | none => False
def dLstM (t : AA) : AE := fun E m Q => t E m fun us m1 => match allD m1 us with
  | some l => l.length ≤ sizeLine ∧ Q (.r m1.length) (m1 ++ [.lst l])
  | none => False
def dTup (t : AA) : AE := fun E m Q => t E m fun us m1 => match allD m1 us with
  | some l => l.length ≤ sizeLine ∧ Q (.v (.tuple l)) m1
  | none => False
section
variable {K : PySem.W.Frag} {F F1 H H1 : Hp} {ro ro1 : List Addr} {m : Sto}
theorem allD_is : ∀ {us : List U} {vs : List V} {l : List PyData}, IsUs K F ro us vs → allD m us = some l → IsDs K F vs l
  | [], _, l, h, e => by cases h; cases e; exact .nil
  | .v d :: us, _, l, h, e => by
    cases h with
    | cons a b =>
      simp only [allD, Option.map_eq_some_iff] at e
      obtain ⟨l', e1, e2⟩ := e
      subst e2
      exact .cons a (allD_is b e1)
  | .r k :: us, _, l, h, e => by simp [allD] at e
  | .s k :: us, _, l, h, e => by simp [allD] at e
variable {Qa : QA} {Q : VK}
/-- a new list, known from now on -/
theorem Post.newL (p : Post K F ro H Qa Q) (c : ConM K F ro H m) {xs : List V} {l : List PyData} (h : IsDs K F xs l) (q : Qa (.v (.list l)) m) : ∀ b, H b = none → Q (.ref b) (upd H b (.lst xs)) := fun b hb => by
  obtain ⟨c1, g1⟩ := c.known hb (.lst xs)
  exact (p.at g1).god c1 (IsD.lst upd_same (IsDs.mono g1.ex h)) q
theorem Post.newT (p : Post K F ro H Qa Q) (c : ConM K F ro H m) {xs : List V} {l : List PyData} (h : IsDs K F xs l) (q : Qa (.v (.tuple l)) m) : ∀ b, H b = none → Q (.ref b) (upd H b (.tup xs)) := fun b hb => by
  obtain ⟨c1, g1⟩ := c.known hb (.tup xs)
  exact (p.at g1).god c1 (IsD.tup (Or.inl upd_same) (IsDs.mono g1.ex h)) q
/-- a new cell -/
theorem Post.newC (p : Post K F ro H Qa Q) (c : ConM K F ro H m) {xs : List V} {l : List PyData} (h : IsDs K F xs l) (q : Qa (.r m.length) (m ++ [.lst l])) : ∀ b, H b = none → Q (.ref b) (upd H b (.lst xs)) := fun b hb => by
  obtain ⟨c1, g1⟩ := c.cellNew hb h
  exact (p.at g1).go (u := .r m.length) c1 (show IsU K F (ro ++ [b]) (.r m.length) (.ref b) from ⟨b, by rw [← c.len, List.getElem?_append_right (Nat.le_refl _)]; simp, rfl⟩) q
end
section
variable {X : Cx} {e : Expr} {es : List Expr} {f : AE} {g : AA} {pos : Pos}
theorem da_nil : DA X [] dNil := pa_imp pa_nil fun σ H Q ⟨F, ro, E, m, Qa, cm, ce, hf, p⟩ => p F ro H [] [] m Gro.refl cm .nil hf
theorem da_cons (ha : DE X e f) (hr : DA X es g) (hs : starEach (e :: es) X.env = (false, eval e X.env) :: starEach es X.env := by rfl) : DA X (e :: es) (dCons f g) := pa_imp (pa_cons ha hr hs) fun σ H Q ⟨F, ro, E, m, Qa, cm, ce, hf, p⟩ =>
  ⟨F, ro, E, m, _, cm, ce, hf, fun F1 ro1 H1 u v m1 g1 c1 i1 h1 => ⟨F1, ro1, E, m1, _, c1, ce.mono g1, h1, fun F2 ro2 H2 us vs m2 g2 c2 i2 h2 => p F2 ro2 H2 (u :: us) (v :: vs) m2 (g1.trans g2) c2 (.cons (i1.mono g2) i2) h2⟩⟩
theorem de_lst (h : DA X es g) : DE X (.List es pos) (dLst g) := pe_imp (pe_lst h) fun σ H Q ⟨F, ro, E, m, Qa, cm, ce, hf, p⟩ =>
  ⟨F, ro, E, m, _, cm, ce, hf, fun F1 ro1 H1 us vs m1 g1 c1 i1 h1 => by
    revert h1
    dsimp only
    split
    · rename_i l el
      intro h1
      have hd := allD_is i1 el
      exact ⟨by rw [hd.length]; exact h1.1, (p.at g1).newL c1 hd h1.2⟩
    · exact fun h1 => h1.elim⟩
theorem de_lstM (h : DA X es g) : DE X (.List es pos) (dLstM g) := pe_imp (pe_lst h) fun σ H Q ⟨F, ro, E, m, Qa, cm, ce, hf, p⟩ =>
  ⟨F, ro, E, m, _, cm, ce, hf, fun F1 ro1 H1 us vs m1 g1 c1 i1 h1 => by
    revert h1
    dsimp only
    split
    · rename_i l el
      intro h1
      have hd := allD_is i1 el
      exact ⟨by rw [hd.length]; exact h1.1, (p.at g1).newC c1 hd h1.2⟩
    · exact fun h1 => h1.elim⟩
theorem de_tup {x1} (h : DA X es g) : DE X (.Tuple es x1 pos) (dTup g) := pe_imp (pe_tup h) fun σ H Q ⟨F, ro, E, m, Qa, cm, ce, hf, p⟩ =>
  ⟨F, ro, E, m, _, cm, ce, hf, fun F1 ro1 H1 us vs m1 g1 c1 i1 h1 => by
    revert h1
    dsimp only
    split
    · rename_i l el
      intro h1
      have hd := allD_is i1 el
      exact ⟨by rw [hd.length]; exact h1.1, (p.at g1).newT c1 hd h1.2⟩
    · exact fun h1 => h1.elim⟩

/-! ### calls of built-ins -/
def dCB (r : List U → Sto → QA → Prop) (t : AA) : AE := fun E m Q => t E m fun us m1 => r us m1 Q
theorem tCB_sim {K : PySem.W.Frag} {r : List V → Hp → VK → Prop} {f : List U → Sto → QA → Prop} (hs : SimC K r f) (σ : L2.St) (H : Hp) (Q : VK) (h : cE K (dCB f g) σ H Q) : tCB r (cA K g) σ H Q := by
  obtain ⟨F, ro, E, m, Qa, cm, ce, hf, p⟩ := h
  exact ⟨F, ro, E, m, _, cm, ce, hf, fun F1 ro1 H1 us vs m1 g1 c1 i1 h1 => hs F1 ro1 H1 m1 us vs Q Qa c1 i1 h1 (p.at g1)⟩
theorem de_callB {x : Str} {p : Pos} {id : String} {r : List V → Hp → VK → Prop} {f : List U → Sto → QA → Prop} (hc : CallR X (.builtin id) r) (hs : SimC X.K r f) (hg : Gl X x) (hm : X.mg x = none) (hv : bootBuiltins x = some (.builtin id)) (ha : DA X (e :: es) g)
    (hn : x ≠ "__name__" := by decide) (hdb : (x == ("__debug__" : Str)) = false := by decide) (he : starEach (e :: es) X.env = (false, eval e X.env) :: starEach es X.env := by rfl) (hpl : (backTo pos (starEach es X.env)).any (·.1) = false := by rfl) :
    DE X (.Call (.Name x p) (e :: es) [] pos) (dCB f g) := pe_imp (pe_callB hc hg hm hv ha hn hdb he hpl) (tCB_sim hs)
theorem de_callTy {x : Str} {p : Pos} {T : String} {r : List V → Hp → VK → Prop} {f : List U → Sto → QA → Prop} (hc : CallR X (.type T) r) (hs : SimC X.K r f) (hg : Gl X x) (hm : X.mg x = none) (hv : bootBuiltins x = some (.type T)) (ha : DA X (e :: es) g)
    (hn : x ≠ "__name__" := by decide) (hdb : (x == ("__debug__" : Str)) = false := by decide) (he : starEach (e :: es) X.env = (false, eval e X.env) :: starEach es X.env := by rfl) (hpl : (backTo pos (starEach es X.env)).any (·.1) = false := by rfl) :
    DE X (.Call (.Name x p) (e :: es) [] pos) (dCB f g) := pe_imp (pe_callTy hc hg hm hv ha hn hdb he hpl) (tCB_sim hs)
end
end Z
/-! Z3: statements, loops, comprehensions, defs. -/
namespace Z
open PySem PySem.Spec PyProof.Rows L2

/-! ### small statements -/
def dNext : AS := fun D E m => D.nx E m
def dSeq (t u : AS) : AS := fun D E m => t { D with nx := u D } E m
def dNever : AS := fun _ _ _ => False
def dExpr (t : AE) : AS := fun D E m => t E m fun _ m1 => D.nx E m1
def dRet (t : AE) : AS := fun D E m => t E m D.rt
/-- a cell is given back as data -/
def dRetF (t : AE) : AS := fun D E m => t E m fun u m1 => match u with
  | .r k => (match m1[k]? with
    | some (.lst l) => D.rt (.v (.list l)) (m1.set k .dead)
    | _ => False)
  | _ => False
def dRetN : AS := fun D _ m => D.rt (.v .none) m
def dBreak : AS := fun D E m => D.bk E m
def dCont : AS := fun D E m => D.ct E m
def dIfS (c : AT) (t u : AS) : AS := fun D E m => c E m fun b m1 => if b = true then t D E m1 else u D E m1
def dAsg (i : Nat) (t : AE) : AS := fun D E m => t E m fun u m1 => D.nx (E.set i (some u)) m1
section
variable {X : Cx} {st : Stmt} {rest : List Stmt} {f g : AS} {e : Expr} {fe : AE} {pos : Pos}
theorem dss_nil : DSs X [] dNext := pss_imp pss_nil fun D σ H ⟨F, ro, E, m, Da, c, ce, hf, p⟩ => p.nx F ro H σ E m Gro.refl c ce hf
theorem cS_seq {K : PySem.W.Frag} (D : Ends) (σ : L2.St) (H : Hp) (h : cS K (dSeq f g) D σ H) : tSeq (cS K f) (cS K g) D σ H := by
  obtain ⟨F, ro, E, m, Da, c, ce, hf, p⟩ := h
  exact ⟨F, ro, E, m, _, c, ce, hf, fun F1 ro1 H1 σ1 E1 m1 g1 c1 ce1 h1 => ⟨F1, ro1, E1, m1, Da, c1, ce1, h1, p.at g1⟩, p.rt, p.bk, p.ct⟩
theorem dss_cons (h1 : DS X st f) (h2 : DSs X rest g) : DSs X (st :: rest) (dSeq f g) := pss_imp (pss_cons h1 h2) cS_seq
theorem dss_one (h1 : DS X st f) : DSs X [st] f := pss_one h1
theorem ds_never : DS X st dNever := ps_imp ps_never fun D σ H ⟨F, ro, E, m, Da, c, ce, hf, p⟩ => hf.elim
theorem ds_pass : DS X (.Pass pos) dNext := ps_imp ps_pass fun D σ H ⟨F, ro, E, m, Da, c, ce, hf, p⟩ => p.nx F ro H σ E m Gro.refl c ce hf
theorem ds_break : DS X (.Break pos) dBreak := ps_imp ps_break fun D σ H ⟨F, ro, E, m, Da, c, ce, hf, p⟩ => p.bk F ro H σ E m Gro.refl c ce hf
theorem ds_continue : DS X (.Continue pos) dCont := ps_imp ps_continue fun D σ H ⟨F, ro, E, m, Da, c, ce, hf, p⟩ => p.ct F ro H σ E m Gro.refl c ce hf
theorem ds_expr (he : DE X e fe) (hs : swapsWith e none pos.line X.env = pure false := by rfl) : DS X (.Expr e pos) (dExpr fe) := ps_imp (ps_expr he hs) fun D σ H ⟨F, ro, E, m, Da, c, ce, hf, p⟩ =>
  ⟨F, ro, E, m, _, c, ce, hf, fun F1 ro1 H1 u v m1 g1 c1 i1 h1 => p.nx F1 ro1 H1 σ E m1 g1 c1 (ce.mono g1) h1⟩
theorem ds_ret (he : DE X e fe) : DS X (.Return (some e) pos) (dRet fe) := ps_imp (ps_ret he) fun D σ H ⟨F, ro, E, m, Da, c, ce, hf, p⟩ => ⟨F, ro, E, m, _, c, ce, hf, p.rt⟩
theorem ds_retF (he : DE X e fe) : DS X (.Return (some e) pos) (dRetF fe) := ps_imp (ps_ret he) fun D σ H ⟨F, ro, E, m, Da, c, ce, hf, p⟩ => by
  refine ⟨F, ro, E, m, _, c, ce, hf, fun F1 ro1 H1 u v m1 g1 c1 i1 h1 => ?_⟩
  revert h1
  split
  · rename_i k
    split
    · rename_i l el
      intro h1
      obtain ⟨a, ha, ev⟩ := i1
      subst ev
      obtain ⟨F2, c2, g2, d2⟩ := c1.freeze ha el
      exact (p.rt.at (g1.trans g2)).god c2 d2 h1
    · exact fun h => h.elim
  · exact fun h => h.elim
/-- a cell's list becomes data, for good -/
def dFrz (t : AE) : AE := fun E m Q => t E m fun u m1 => match u with
  | .r k => (match m1[k]? with
    | some (.lst l) => Q (.v (.list l)) (m1.set k .dead)
    | some (.dct l) => Q (.v (.dict l)) (m1.set k .dead)
    | _ => False)
  | .v d => Q (.v d) m1
  | .s _ => False
  | .o t => Q (.o t) m1
theorem de_frz (he : DE X e fe) : DE X e (dFrz fe) := pe_imp he fun σ H Q ⟨F, ro, E, m, Qa, c, ce, hf, p⟩ => by
  refine ⟨F, ro, E, m, _, c, ce, hf, fun F1 ro1 H1 u v m1 g1 c1 i1 h1 => ?_⟩
  revert h1
  split
  · rename_i k
    split
    · rename_i l el
      intro h1
      obtain ⟨a, ha, ev⟩ := i1
      subst ev
      obtain ⟨F2, c2, g2, d2⟩ := c1.freeze ha el
      exact (p.at (g1.trans g2)).god c2 d2 h1
    · rename_i l el
      intro h1
      obtain ⟨a, ha, ev⟩ := i1
      subst ev
      obtain ⟨F2, c2, g2, d2⟩ := c1.dctFreeze ha el
      exact (p.at (g1.trans g2)).god c2 d2 h1
    · exact fun h => h.elim
  · exact fun h1 => (p.at g1).god c1 i1 h1
  · exact fun h => h.elim
  · exact fun h1 => (p.at g1).go (u := .o _) c1 i1 h1
theorem ds_retN : DS X (.Return none pos) dRetN := ps_imp ps_retN fun D σ H ⟨F, ro, E, m, Da, c, ce, hf, p⟩ => p.rt.god c .non hf
theorem ds_if {c : Expr} {a b : List Stmt} {tc : AT} (hc : DT X c tc) (ha : DSs X a f) (hb : DSs X b g) : DS X (.If c a b pos) (dIfS tc f g) := ps_imp (ps_if hc ha hb) fun D σ H ⟨F, ro, E, m, Da, cm, ce, hf, p⟩ =>
  ⟨F, ro, E, m, _, cm, ce, hf, fun F1 ro1 H1 c m1 g1 c1 h1 => by
    cases c with
    | true => exact ⟨F1, ro1, E, m1, Da, c1, ce.mono g1, h1, p.at g1⟩
    | false => exact ⟨F1, ro1, E, m1, Da, c1, ce.mono g1, h1, p.at g1⟩⟩
theorem cS_asg {K : PySem.W.Frag} {i : Nat} (D : Ends) (σ : L2.St) (H : Hp) (h : cS K (dAsg i fe) D σ H) : tAsg (cE K fe) (gName i) D σ H := by
  obtain ⟨F, ro, E, m, Da, c, ce, hf, p⟩ := h
  exact ⟨F, ro, E, m, _, c, ce, hf, fun F1 ro1 H1 u v m1 g1 c1 i1 h1 => p.nx F1 ro1 H1 _ _ m1 g1 c1 ((ce.mono g1).set i i1) h1⟩
/-- x = e -/
theorem ds_set (i : Nat) {x : Str} {pos' : Pos} (hN : X.N.Nodup) (he : DE X e fe) (hi : X.N[i]? = some x := by rfl) (hx : Loc X.env.scope x := by first | exact Or.inl rfl | exact Or.inr rfl) (hs : swapsWith e (some (.Name x pos')) pos.line X.env = pure false := by rfl)
    (hf : X.fn x = true ∨ X.env.scope.names.lookup x = some .local := by first | exact .inl rfl | exact .inr rfl | assumption) : DS X (.Assign [.Name x pos'] e pos) (dAsg i fe) := ps_imp (ps_set hN hi hx he hs hf) cS_asg

/-! ### targets -/
abbrev AG := U → En → Sto → (En → Sto → Prop) → Prop
abbrev AGs := List PyData → En → Sto → (En → Sto → Prop) → Prop
def cG (K : PySem.W.Frag) (g : AG) : TG := fun v σ H Q => ∃ F ro E m u Qa, ConM K F ro H m ∧ ConE K F ro σ E ∧ IsU K F ro u v ∧ g u E m Qa ∧ PostS K F ro H Qa Q
def cGs (K : PySem.W.Frag) (g : AGs) : TGs := fun vs σ H Q => ∃ F ro E m us Qa, ConM K F ro H m ∧ ConE K F ro σ E ∧ IsDs K F vs us ∧ g us E m Qa ∧ PostS K F ro H Qa Q
def gN (i : Nat) : AG := fun u E m Q => Q (E.set i (some u)) m
def gN0 : AGs := fun us E m Q => us = [] ∧ Q E m
def gN1 (t : AG) (r : AGs) : AGs := fun us E m Q => match us with
  | u :: us => t (.v u) E m fun E1 m1 => r us E1 m1 Q
  | [] => False
def gT (n : Nat) (r : AGs) : AG := fun u E m Q => match u with
  | .v (.tuple l) => l.length = n ∧ r l E m Q
  | _ => False
theorem pg_imp {e : Expr} {t t' : TG} (h : PG X e t) (i : ∀ v σ H Q, t' v σ H Q → t v σ H Q) : PG X e t' := ⟨fun pins s σ H v u Q I r hw => h.run pins s σ H v u Q I r (i v σ H Q hw)⟩
theorem pgs_imp {e : List Expr} {t t' : TGs} (h : PGs X e t) (i : ∀ v σ H Q, t' v σ H Q → t v σ H Q) : PGs X e t' := ⟨fun pins s σ H v u Q I r hw => h.run pins s σ H v u Q I r (i v σ H Q hw)⟩
abbrev DG (X : Cx) (e : Expr) (g : AG) : Prop := PG X e (cG X.K g)
abbrev DGs (X : Cx) (e : List Expr) (g : AGs) : Prop := PGs X e (cGs X.K g)
theorem dg_n (i : Nat) {x : Str} (hN : X.N.Nodup) (hi : X.N[i]? = some x := by rfl) (hx : Loc X.env.scope x := by first | exact Or.inl rfl | exact Or.inr rfl) (hf : X.fn x = true ∨ X.env.scope.names.lookup x = some .local := by first | exact .inl rfl | exact .inr rfl | assumption) :
    DG X (.Name x pos) (gN i) := pg_imp (pg_name hN hi hx hf) fun v σ H Q ⟨F, ro, E, m, u, Qa, c, ce, iu, hg, p⟩ => p F ro H _ _ m Gro.refl c (ce.set i iu) hg
theorem dgs_nil : DGs X [] gN0 := pgs_imp pgs_nil fun v σ H Q ⟨F, ro, E, m, us, Qa, c, ce, iu, hg, p⟩ => by
  obtain ⟨e, q⟩ := hg
  subst e
  cases iu
  exact ⟨rfl, p F ro H σ E m Gro.refl c ce q⟩
theorem dgs_cons {es : List Expr} {t : AG} {r : AGs} (h1 : DG X e t) (h2 : DGs X es r) (hs : (assignEach (e :: es) X.env).map (·.2) = assign e X.env :: (assignEach es X.env).map (·.2) := by rfl) : DGs X (e :: es) (gN1 t r) :=
  pgs_imp (pgs_cons h1 h2 hs) fun v σ H Q ⟨F, ro, E, m, us, Qa, c, ce, iu, hg, p⟩ => by
    cases iu with
    | nil => exact hg.elim
    | cons a b =>
      exact ⟨_, _, rfl, F, ro, E, m, .v _, _, c, ce, a, hg, fun F1 ro1 H1 σ1 E1 m1 g1 c1 ce1 h1 => ⟨F1, ro1, E1, m1, _, _, c1, ce1, IsDs.mono g1.ex b, h1, p.at g1⟩⟩
theorem dg_tup {es : List Expr} {k n : Nat} {r : AGs} (hc : X.calm = true) (h : DGs X es r) (hn : (assignEach es X.env).length = n := by rfl) (hst : (assignEach es X.env).findIdx? (·.1) = none := by rfl) : DG X (.Tuple es k pos) (gT n r) :=
  pg_imp (pg_tup hc h hn hst) fun v σ H Q ⟨F, ro, E, m, u, Qa, c, ce, iu, hg, p⟩ => by
    revert hg
    unfold gT
    split
    · rename_i l
      intro hg
      cases iu with
      | tup h1 h2 => exact ⟨_, _, rfl, Or.inl (rd_mono c.ex h1), by rw [h2.length]; exact hg.1, F, ro, E, m, l, Qa, c, ce, h2, hg.2, p⟩
    · exact fun h => h.elim
/-- target = e -/
def dAsgG (g : AG) (t : AE) : AS := fun D E m => t E m fun u m1 => g u E m1 D.nx
theorem ds_asg {tg : Expr} {g : AG} (he : DE X e fe) (hg : DG X tg g) (hs : swapsWithSole [tg] e pos.line X.env = pure false := by rfl) (hw : swappedStores [tg] e X.env = pure none := by rfl)
    (h1 : (assignEach [tg] X.env).map (·.2) = [assign tg X.env] := by rfl) : DS X (.Assign [tg] e pos) (dAsgG g fe) := ps_imp (ps_asg he hg hs hw h1) fun D σ H ⟨F, ro, E, m, Da, c, ce, hf, p⟩ =>
  ⟨F, ro, E, m, _, c, ce, hf, fun F1 ro1 H1 u v m1 g1 c1 i1 h1 => ⟨F1, ro1, E, m1, u, _, c1, ce.mono g1, i1, h1, p.nx.at g1⟩⟩
/-- a, b = x, y; a, b, c = x, y, z -/
def dPar2 (i j : Nat) (t : AA) : AS := fun D E m => t E m fun us m1 => match us with
  | [u, w] => D.nx ((E.set i (some u)).set j (some w)) m1
  | _ => False
def dPar3 (i j k : Nat) (t : AA) : AS := fun D E m => t E m fun us m1 => match us with
  | [u, v, w] => D.nx (((E.set i (some u)).set j (some v)).set k (some w)) m1
  | _ => False
theorem ds_par2 (i j : Nat) {x y : Str} {a b : Expr} {ta : AA} {px py pt : Pos} {kt k2 pt2} (hc : X.calm = true) (hN : X.N.Nodup) (ha : DA X [a, b] ta) (hi : X.N[i]? = some x := by rfl) (hj : X.N[j]? = some y := by rfl) (hij : i ≠ j := by decide)
    (hx : X.env.scope.names.lookup x = some .local := by rfl) (hy : X.env.scope.names.lookup y = some .local := by rfl)
    (hw : swappedStores [.Tuple [.Name x px, .Name y py] kt pt] (.Tuple [a, b] k2 pt2) X.env = pure (some [x, y]) := by rfl)
    (hs : swapsWithSole [.Tuple [.Name x px, .Name y py] kt pt] (.Tuple [a, b] k2 pt2) pos.line X.env = pure false := by rfl) :
    DS X (.Assign [.Tuple [.Name x px, .Name y py] kt pt] (.Tuple [a, b] k2 pt2) pos) (dPar2 i j ta) := ps_imp (ps_par hc hN hi hj hij hx hy ha hw hs) fun D σ H ⟨F, ro, E, m, Da, c, ce, hf, p⟩ =>
  ⟨F, ro, E, m, _, c, ce, hf, fun F1 ro1 H1 us vs m1 g1 c1 i1 h1 => by
    revert h1
    split
    · intro h1
      cases i1 with
      | cons a1 b1 =>
        cases b1 with
        | cons a2 b2 =>
          cases b2
          exact ⟨_, _, rfl, p.nx F1 ro1 H1 _ _ m1 g1 c1 (((ce.mono g1).set i a1).set j a2) h1⟩
    · exact fun h => h.elim⟩
theorem ds_par3 (i j k : Nat) {x y z : Str} {a b c : Expr} {ta : AA} {px py pz pt : Pos} {kt k2 pt2} (hc : X.calm = true) (hN : X.N.Nodup) (ha : DA X [a, b, c] ta) (hi : X.N[i]? = some x := by rfl) (hj : X.N[j]? = some y := by rfl) (hk : X.N[k]? = some z := by rfl)
    (hij : i ≠ j := by decide) (hik : i ≠ k := by decide) (hjk : j ≠ k := by decide)
    (hx : X.env.scope.names.lookup x = some .local := by rfl) (hy : X.env.scope.names.lookup y = some .local := by rfl) (hz : X.env.scope.names.lookup z = some .local := by rfl)
    (hw : swappedStores [.Tuple [.Name x px, .Name y py, .Name z pz] kt pt] (.Tuple [a, b, c] k2 pt2) X.env = pure (some [x, y, z]) := by rfl)
    (hs : swapsWithSole [.Tuple [.Name x px, .Name y py, .Name z pz] kt pt] (.Tuple [a, b, c] k2 pt2) pos.line X.env = pure false := by rfl) :
    DS X (.Assign [.Tuple [.Name x px, .Name y py, .Name z pz] kt pt] (.Tuple [a, b, c] k2 pt2) pos) (dPar3 i j k ta) := ps_imp (ps_par3 hc hN hi hj hk hij hik hjk hx hy hz ha hw hs) fun D σ H ⟨F, ro, E, m, Da, c, ce, hf, p⟩ =>
  ⟨F, ro, E, m, _, c, ce, hf, fun F1 ro1 H1 us vs m1 g1 c1 i1 h1 => by
    revert h1
    split
    · intro h1
      cases i1 with
      | cons a1 b1 =>
        cases b1 with
        | cons a2 b2 =>
          cases b2 with
          | cons a3 b3 =>
            cases b3
            exact ⟨_, _, _, rfl, p.nx F1 ro1 H1 _ _ m1 g1 c1 ((((ce.mono g1).set i a1).set j a2).set k a3) h1⟩
    · exact fun h => h.elim⟩
/-- tuple = tuple, the tuple made (names that are cells): each value is stored, whatever it is -/
def setAll : List Nat → List U → En → En
  | i :: is, u :: us, E => setAll is us (E.set i (some u))
  | _, _, E => E
def dUnp (is : List Nat) (t : AA) : AS := fun D E m => t E m fun us m1 => us.length = is.length ∧ D.nx (setAll is us E) m1
/-- names, by slots -/
inductive GNames (X : Cx) : List Expr → List Nat → TGs → Prop
  | nil : GNames X [] [] gNil
  | cons {e : Expr} {es : List Expr} {i : Nat} {is : List Nat} {r : TGs} : PG X e (gName i) → GNames X es is r → (assignEach (e :: es) X.env).map (·.2) = assign e X.env :: (assignEach es X.env).map (·.2) → GNames X (e :: es) (i :: is) (gCons (gName i) r)
theorem GNames.pgs {es : List Expr} {is : List Nat} {r : TGs} (h : GNames X es is r) : PGs X es r := by
  induction h with
  | nil => exact pgs_nil
  | cons a b c ih => exact pgs_cons a ih c
theorem GNames.sim {K : PySem.W.Frag} {F : Hp} {ro : List Addr} {H : Hp} {Q : L2.St → Hp → Prop} {es : List Expr} {is : List Nat} {r : TGs} (h : GNames X es is r) : ∀ {us : List U} {vs : List V} {σ : L2.St} {E : En}, IsUs K F ro us vs → us.length = is.length → ConE K F ro σ E →
    (∀ σ', ConE K F ro σ' (setAll is us E) → Q σ' H) → r vs σ H Q := by
  induction h with
  | nil =>
    intro us vs σ E iu hl ce q
    cases iu with
    | nil => exact ⟨rfl, q σ ce⟩
    | cons _ _ => simp at hl
  | cons a b c ih =>
    intro us vs σ E iu hl ce q
    cases iu with
    | nil => simp at hl
    | cons a1 b1 => exact ⟨_, _, rfl, ih b1 (by simpa using hl) (ce.set _ a1) q⟩
theorem ds_unp {es ts : List Expr} {k k2 n : Nat} {pt p2 : Pos} {is : List Nat} {r : TGs} {ta : AA} (hc : X.calm = true) (h : GNames X ts is r) (ha : DA X es ta)
    (hn : (assignEach ts X.env).length = n := by rfl) (hst : (assignEach ts X.env).findIdx? (·.1) = none := by rfl) (hl : is.length = n := by rfl) (hz : n ≤ 100 := by decide)
    (hs : swapsWithSole [.Tuple ts k pt] (.Tuple es k2 p2) pos.line X.env = pure false := by rfl) (hw : swappedStores [.Tuple ts k pt] (.Tuple es k2 p2) X.env = pure none := by rfl)
    (h1 : (assignEach [.Tuple ts k pt] X.env).map (·.2) = [assign (.Tuple ts k pt) X.env] := by rfl) : DS X (.Assign [.Tuple ts k pt] (.Tuple es k2 p2) pos) (dUnp is ta) :=
  ps_imp (ps_asg (pe_tup ha) (pg_tup hc h.pgs hn hst) hs hw h1) fun D σ H ⟨F, ro, E, m, Da, c, ce, hf, p⟩ =>
    ⟨F, ro, E, m, _, c, ce, hf, fun F1 ro1 H1 us vs m1 g1 c1 i1 h1 => by
      have e1 := i1.length
      have e2 := h1.1
      refine ⟨by rw [sizeLine_eq]; omega, fun b hb => ?_⟩
      obtain ⟨c2, g2⟩ := c1.known hb (.tup vs)
      exact ⟨b, vs, rfl, Or.inl (Or.inl upd_same), by omega, h.sim (i1.mono g2) h1.1 ((ce.mono g1).mono g2) fun σ' ce' => p.nx _ _ _ σ' _ m1 (g1.trans g2) c2 ce' h1.2⟩⟩
end

/-! ### while -/
def whN (t : AT) (b : AS) (D : AEnds) : Nat → En → Sto → Prop
  | 0, _, _ => False
  | n + 1, E, m => t E m fun c m1 => if c = true then b ⟨whN t b D n, D.rt, D.nx, whN t b D n⟩ E m1 else D.nx E m1
def dWhile (t : AT) (b : AS) : AS := fun D E m => ∃ n, whN t b D n E m
section
variable {X : Cx} {c : Expr} {body : List Stmt} {t : AT} {b : AS} {pos : Pos}
theorem ds_while (hp : PassesOwn (model X.prog X.w) X.A X.env X.xe) (hc : DT X c t) (hb : DSs X body b) : DS X (.While c body [] pos) (dWhile t b) := ps_imp (ps_while hp hc hb) fun D σ H ⟨F, ro, E, m, Da, cm, ce, ⟨n, hn⟩, p⟩ => by
  refine ⟨fun n σ' H' => ∃ F' ro' E' m', Gro F ro H F' ro' H' ∧ ConM X.K F' ro' H' m' ∧ ConE X.K F' ro' σ' E' ∧ whN t b Da n E' m', ⟨n, F, ro, E, m, Gro.refl, cm, ce, hn⟩, ?_⟩
  rintro n σ1 H1 ⟨F1, ro1, E1, m1, g1, c1, ce1, h1⟩
  cases n with
  | zero => exact h1.elim
  | succ n =>
    refine ⟨F1, ro1, E1, m1, _, c1, ce1, h1, fun F2 ro2 H2 d m2 g2 c2 h2 => ?_⟩
    cases d with
    | true =>
      rw [if_pos rfl] at h2 ⊢
      refine ⟨fun σ' H' => ∃ F' ro' E' m', Gro F ro H F' ro' H' ∧ ConM X.K F' ro' H' m' ∧ ConE X.K F' ro' σ' E' ∧ whN t b Da n E' m', fun σ' H' h => ⟨n, Nat.lt_succ_self n, h⟩, F2, ro2, E1, m2, _, c2, ce1.mono g2, h2, ?_⟩
      exact ⟨fun F3 ro3 H3 σ3 E3 m3 g3 c3 ce3 h3 => ⟨F3, ro3, E3, m3, g1.trans (g2.trans g3), c3, ce3, h3⟩, p.rt.at (g1.trans g2), p.nx.at (g1.trans g2), fun F3 ro3 H3 σ3 E3 m3 g3 c3 ce3 h3 => ⟨F3, ro3, E3, m3, g1.trans (g2.trans g3), c3, ce3, h3⟩⟩
    | false =>
      rw [if_neg Bool.false_ne_true] at h2 ⊢
      exact p.nx F2 ro2 H2 σ1 E1 m2 (g1.trans g2) c2 (ce1.mono g2) h2
end

/-! ### what a for walks -/
/-- J yields us, one by one, while gd holds of the store -/
structure ItOk (K : PySem.W.Frag) (F : Hp) (ro : List Addr) (H : Hp) (J : It) (us : List U) (gd : Sto → Prop) : Prop where
  go : ∀ (i : Nat) (F' : Hp) (ro' : List Addr) (H' : Hp) (m' : Sto), Gro F ro H F' ro' H' → ConM K F' ro' H' m' → gd m' → i < us.length → J.go i H'
  stop : ∀ (F' : Hp) (ro' : List Addr) (H' : Hp) (m' : Sto), Gro F ro H F' ro' H' → ConM K F' ro' H' m' → gd m' → J.stop us.length H'
  yld : ∀ (i : Nat) (u : U) (F' : Hp) (ro' : List Addr) (H' : Hp) (m' : Sto) (x : V) (H2 : Hp), Gro F ro H F' ro' H' → ConM K F' ro' H' m' → gd m' → us[i]? = some u → J.yld i H' x H2 → ∃ F2, ConM K F2 ro' H2 m' ∧ Gro F' ro' H' F2 ro' H2 ∧ IsU K F2 ro' u x
abbrev AI := En → Sto → (List U → (Sto → Prop) → Sto → Prop) → Prop
def cI (K : PySem.W.Frag) (s : AI) : TI := fun σ H R => ∃ F ro E m Ra, ConM K F ro H m ∧ ConE K F ro σ E ∧ s E m Ra ∧
  ∀ (F' : Hp) (ro' : List Addr) (H' : Hp) (us : List U) (gd : Sto → Prop) (m' : Sto) (J : It), Gro F ro H F' ro' H' → ConM K F' ro' H' m' → ItOk K F' ro' H' J us gd → Ra us gd m' → R J H'
abbrev DI (X : Cx) (tg iter : Expr) (s : AI) : Prop := PI X tg iter (cI X.K s)
def forU (gd : Sto → Prop) (g : AG) (body : AS) (D : AEnds) : List U → En → Sto → Prop
  | [], E, m => gd m ∧ D.nx E m
  | u :: us, E, m => gd m ∧ g u E m fun E1 m1 => body ⟨fun E2 m2 => forU gd g body D us E2 m2, D.rt, D.nx, fun E2 m2 => forU gd g body D us E2 m2⟩ E1 m1
def dFor (s : AI) (g : AG) (body : AS) : AS := fun D E m => s E m fun us gd m1 => forU gd g body D us E m1
section
variable {X : Cx} {tg iter : Expr} {body : List Stmt} {s : AI} {g : AG} {b : AS} {pos : Pos}
theorem pi_imp {wi wi' : TI} (h : PI X tg iter wi) (i : ∀ σ H R, wi' σ H R → wi σ H R) : PI X tg iter wi' := ⟨fun pins s σ H R I hw => h.run pins s σ H R I (i σ H R hw)⟩
theorem ds_for (hp : PassesOwn (model X.prog X.w) X.A X.env X.xe) (hc : X.calm = true) (hi : DI X tg iter s) (hg : DG X tg g) (hb : DSs X body b) (hs : ∀ x, foldedSetIterable iter X.env x = pure x := by intro _; rfl) : DS X (.For tg iter body [] pos) (dFor s g b) :=
  ps_imp (ps_for hp hc hi hg hb hs) fun D σ H ⟨F, ro, E, m, Da, cm, ce, hf, p⟩ => by
    refine ⟨F, ro, E, m, _, cm, ce, hf, fun F1 ro1 H1 us gd m1 J g1 c1 ok h1 => ?_⟩
    refine ⟨fun i n σ' H' => n = us.length - i ∧ i ≤ us.length ∧ ∃ F' ro' E' m', Gro F1 ro1 H1 F' ro' H' ∧ ConM X.K F' ro' H' m' ∧ ConE X.K F' ro' σ' E' ∧ forU gd g b Da (us.drop i) E' m', ⟨us.length, rfl, Nat.zero_le _, F1, ro1, E, m1, Gro.refl, c1, ce.mono g1, h1⟩, ?_⟩
    rintro i n σ2 H2 ⟨en, hi, F2, ro2, E2, m2, g2, c2, ce2, h2⟩
    by_cases hlt : i < us.length
    · rw [List.drop_eq_getElem_cons hlt] at h2
      obtain ⟨hgd, h2⟩ := h2
      refine .inr ⟨ok.go i F2 ro2 H2 m2 g2 c2 hgd hlt, fun σ' H' => ∃ F' ro' E' m', Gro F1 ro1 H1 F' ro' H' ∧ ConM X.K F' ro' H' m' ∧ ConE X.K F' ro' σ' E' ∧ forU gd g b Da (us.drop (i + 1)) E' m', fun σ' H' h => ⟨us.length - (i + 1), by omega, rfl, hlt, h⟩, fun x H3 hy => ?_⟩
      obtain ⟨F3, c3, g3, iu⟩ := ok.yld i us[i] F2 ro2 H2 m2 x H3 g2 c2 hgd (List.getElem?_eq_getElem hlt) hy
      refine ⟨F3, ro2, E2, m2, _, _, c3, ce2.mono g3, iu, h2, fun F4 ro4 H4 σ4 E4 m4 g4 c4 ce4 h4 => ?_⟩
      have g14 := g2.trans (g3.trans g4)
      refine ⟨F4, ro4, E4, m4, _, c4, ce4, h4, ?_⟩
      exact ⟨fun F5 ro5 H5 σ5 E5 m5 g5 c5 ce5 h5 => ⟨F5, ro5, E5, m5, g14.trans g5, c5, ce5, h5⟩, p.rt.at (g1.trans g14), p.nx.at (g1.trans g14), fun F5 ro5 H5 σ5 E5 m5 g5 c5 ce5 h5 => ⟨F5, ro5, E5, m5, g14.trans g5, c5, ce5, h5⟩⟩
    · have ei : i = us.length := by omega
      subst ei
      rw [List.drop_length] at h2
      exact .inl ⟨ok.stop F2 ro2 H2 m2 g2 c2 h2.1, p.nx F2 ro2 H2 σ2 E2 m2 (g1.trans g2) c2 ce2 h2.2⟩
end

/-! ### comprehensions -/
def wipeE (E : En) : List Nat → En
  | [] => E
  | v :: vs => (wipeE E vs).set v none
def lcU (gd : Sto → Prop) (g : AG) (tt : AT) (te : AE) (E : En) (Q : QA) : List U → List PyData → Sto → Prop
  | [], acc, m => gd m ∧ Q (.v (.list acc)) m
  | u :: us, acc, m => gd m ∧ g u E m fun E1 m1 => tt E1 m1 fun c m2 => if c = true then te E1 m2 fun w m3 => (match w with
      | .v d => acc.length < sizeLine ∧ lcU gd g tt te E Q us (acc ++ [d]) m3
      | _ => False) else lcU gd g tt te E Q us acc m2
def dLc (s : AI) (g : AG) (tt : AT) (te : AE) (vs : List Nat) : AE := fun E m Q => s E m fun us gd m1 => lcU gd g tt te (wipeE E vs) Q us [] m1
/-- the same, the list a cell from then on -/
def lcUM (gd : Sto → Prop) (g : AG) (tt : AT) (te : AE) (E : En) (Q : QA) : List U → List PyData → Sto → Prop := lcU gd g tt te E fun u m => match u with
  | .v (.list l) => Q (.r m.length) (m ++ [.lst l])
  | _ => False
def dLcM (s : AI) (g : AG) (tt : AT) (te : AE) (vs : List Nat) : AE := fun E m Q => s E m fun us gd m1 => lcUM gd g tt te (wipeE E vs) Q us [] m1
def dYes : AT := fun _ m Q => Q true m
section
variable {X : Cx}
abbrev DTs (X : Cx) (e : List Expr) (f : AT) : Prop := PTs X e (cT X.K f)
theorem pts_imp {e : List Expr} {t t' : TT} (h : PTs X e t) (i : ∀ σ H Q, t' σ H Q → t σ H Q) : PTs X e t' := ⟨fun pins s σ H Q I hw => h.run pins s σ H Q I (i σ H Q hw)⟩
theorem dts_nil : DTs X [] dYes := pts_imp pts_nil fun σ H Q ⟨F, ro, E, m, Qa, c, ce, hf, p⟩ => p F ro H true m Gro.refl c hf
theorem dts_one {c : Expr} {f : AT} (h : DT X c f) : DTs X [c] f := pts_one h
theorem conE_wipe {K : PySem.W.Frag} {F : Hp} {ro : List Addr} {σ : L2.St} {E : En} (h : ConE K F ro σ E) : ∀ vs : List Nat, ConE K F ro (wipe σ vs) (wipeE E vs)
  | [] => h
  | v :: vs => (conE_wipe h vs).unset v
/-- the target is a name or a tuple of names: what it does to the slots -/
structure GOwn (K : PySem.W.Frag) (g : TG) (ga : AG) (vs : List Nat) : Prop where
  sim : ∀ (F : Hp) (ro : List Addr) (H : Hp) (σ : L2.St) (E : En) (m : Sto) (u : U) (v : V) (Q : L2.St → Hp → Prop) (Qa : En → Sto → Prop), ConM K F ro H m → ConE K F ro (wipe σ vs) E → IsU K F ro u v → ga u E m Qa →
    (∀ σ2 E2, ConE K F ro σ2 E2 → wipe σ2 vs = wipe σ vs → Qa E2 m → Q σ2 H) → g v (wipe σ vs) H Q
theorem gown_n {K : PySem.W.Frag} (i : Nat) : GOwn K (gName i) (gN i) [i] := ⟨fun F ro H σ E m u v Q Qa c ce iu hg q => q _ _ (ce.set i iu) (by simp [wipe, List.set_set]) hg⟩
theorem wipe2 (σ : L2.St) (i j : Nat) (a b : Option V) (hij : i ≠ j) : wipe (((wipe σ [i, j]).set i a).set j b) [i, j] = wipe σ [i, j] := by
  show ((((((σ.set j none).set i none).set i a).set j b).set j none).set i none) = (σ.set j none).set i none
  apply List.ext_getElem?
  intro n
  by_cases h1 : i = n
  · subst h1
    simp only [List.getElem?_set, List.length_set]
    simp
  · by_cases h2 : j = n
    · subst h2
      simp only [List.getElem?_set, List.length_set]
      simp [h1]
    · simp only [List.getElem?_set, List.length_set]
      simp [h1, h2]
theorem gown_2 {K : PySem.W.Frag} (i j : Nat) (hij : i ≠ j := by decide) : GOwn K (gTup K 2 (gCons (gName i) (gCons (gName j) gNil))) (gT 2 (gN1 (gN i) (gN1 (gN j) gN0))) [i, j] := ⟨fun F ro H σ E m u v Q Qa c ce iu hg q => by
  revert hg
  unfold gT
  split
  · rename_i l
    intro hg
    obtain ⟨hl, hg⟩ := hg
    cases iu with
    | tup h1 h2 =>
      cases h2 with
      | nil => cases hl
      | cons a1 h3 =>
        cases h3 with
        | nil => cases hl
        | cons a2 h4 =>
          cases h4 with
          | cons _ _ => exact absurd hl (by simp)
          | nil => exact ⟨_, _, rfl, Or.inl (rd_mono c.ex h1), rfl, _, _, rfl, _, _, rfl, rfl, q _ _ ((ce.set i (u := .v _) a1).set j (u := .v _) a2) (wipe2 σ i j _ _ hij) hg.2⟩
  · exact fun h => h.elim⟩
theorem ConM.adopt {K : PySem.W.Frag} {F H : Hp} {ro : List Addr} {m : Sto} (c : ConM K F ro H m) {p : Addr} {xs : List V} {l : List PyData} (hx : H p = some (.lst xs)) (hF : F p = none) (hr : p ∉ ro) (h : IsDs K F xs l) : ConM K F (ro ++ [p]) H (m ++ [.lst l]) := by
  refine ⟨c.ex, by rw [List.length_append, List.length_append, c.len]; rfl, ?_, fun k a x h1 h2 => ?_⟩
  · rw [List.nodup_append]
    refine ⟨c.nd, by simp, fun a ha b hb => ?_⟩
    have eb : b = p := by simpa using hb
    subst eb
    exact fun z => hr (z ▸ ha)
  · by_cases hk : k < ro.length
    · rw [List.getElem?_append_left hk] at h1
      rw [List.getElem?_append_left (by rw [← c.len]; exact hk)] at h2
      exact c.cell k a x h1 h2
    · have e0 : k = ro.length := by
        have := (List.getElem?_eq_some_iff.mp h1).1
        rw [List.length_append] at this
        simp at this
        omega
      subst e0
      rw [List.getElem?_append_right (Nat.le_refl _)] at h1
      rw [c.len, List.getElem?_append_right (Nat.le_refl _)] at h2
      simp at h1 h2
      subst h1 h2
      exact ⟨hF, xs, hx, h⟩
theorem ConM.dctAdopt {K : PySem.W.Frag} {F H : Hp} {ro : List Addr} {m : Sto} (c : ConM K F ro H m) {p : Addr} {xs : List (Key × V)} {l : List (PyData × PyData)} (hx : H p = some (.dK xs)) (hF : F p = none) (hr : p ∉ ro) (h : IsDk K F xs l) : ConM K F (ro ++ [p]) H (m ++ [.dct l]) := by
  refine ⟨c.ex, by rw [List.length_append, List.length_append, c.len]; rfl, ?_, fun k a x h1 h2 => ?_⟩
  · rw [List.nodup_append]
    refine ⟨c.nd, by simp, fun a ha b hb => ?_⟩
    have eb : b = p := by simpa using hb
    subst eb
    exact fun z => hr (z ▸ ha)
  · by_cases hk : k < ro.length
    · rw [List.getElem?_append_left hk] at h1
      rw [List.getElem?_append_left (by rw [← c.len]; exact hk)] at h2
      exact c.cell k a x h1 h2
    · have e0 : k = ro.length := by
        have := (List.getElem?_eq_some_iff.mp h1).1
        rw [List.length_append] at this
        simp at this
        omega
      subst e0
      rw [List.getElem?_append_right (Nat.le_refl _)] at h1
      rw [c.len, List.getElem?_append_right (Nat.le_refl _)] at h2
      simp at h1 h2
      subst h1 h2
      exact ⟨hF, xs, hx, h⟩
/-- a known list appended to: what is being made is neither known nor a cell -/
theorem lc_sim {K : PySem.W.Frag} {s : AI} {g : TG} {ga : AG} {tt : AT} {te : AE} {vs : List Nat} (hg : GOwn K g ga vs) (σ : L2.St) (H : Hp) (Q : VK) (h : cE K (dLc s ga tt te vs) σ H Q) : tLc (cI K s) g (cT K tt) (cE K te) vs σ H Q := by
  obtain ⟨F, ro, E, m, Qa, cm, ce, hf, p⟩ := h
  refine ⟨F, ro, E, m, _, cm, ce, hf, fun F1 ro1 H1 us gd m1 J g1 c1 ok h1 => ?_⟩
  intro D hD
  obtain ⟨hFD, hrD⟩ := c1.new hD
  -- the heap with the list at D, D forgotten
  have base : ∀ l : List V, ConM K F1 ro1 (upd H1 D (.lst l)) m1 ∧ Gro F1 ro1 H1 F1 ro1 (upd H1 D (.lst l)) := fun l => by
    have e := same_upd (o := HO.lst l) hD
    refine ⟨⟨c1.ex.trans e, c1.len, c1.nd, fun k a x q1 q2 => ?_⟩, ⟨Same.refl _, ⟨[], by simp, fun _ h => nomatch h⟩, fun a x q1 q2 => ?_, fun a q1 => ?_⟩⟩
    · have ne : a ≠ D := fun z => hrD (z ▸ List.mem_of_getElem? q1)
      exact (c1.cell k a x q1 q2).grow (Same.refl F1) (fun z => z) (upd_ne ne)
    · exact ⟨by rw [upd_ne (ne_of_none q1 hD)]; exact q1, rfl⟩
    · by_cases z : a = D
      · rw [z, upd_same]; simp
      · rw [upd_ne z]; exact q1
  refine ⟨fun i n H' => n = us.length - i ∧ i ≤ us.length ∧ ∃ F' ro' m' acc xs, Gro F1 ro1 H1 F' ro' H' ∧ ConM K F' ro' H' m' ∧ H' D = some (.lst xs) ∧ F' D = none ∧ D ∉ ro' ∧ IsDs K F' xs acc ∧ lcU gd ga tt te (wipeE E vs) Qa (us.drop i) acc m',
    ⟨us.length, rfl, Nat.zero_le _, F1, ro1, m1, [], [], (base []).2, (base []).1, upd_same, hFD, hrD, .nil, h1⟩, ?_⟩
  rintro i n H2 ⟨en, hi, F2, ro2, m2, acc, xs, g2, c2, hx, hF2, hr2, hd, h2⟩
  by_cases hlt : i < us.length
  · rw [List.drop_eq_getElem_cons hlt] at h2
    obtain ⟨hgd, h2⟩ := h2
    refine .inr ⟨ok.go i F2 ro2 H2 m2 g2 c2 hgd hlt, fun H' => ∃ F' ro' m' acc xs, Gro F1 ro1 H1 F' ro' H' ∧ ConM K F' ro' H' m' ∧ H' D = some (.lst xs) ∧ F' D = none ∧ D ∉ ro' ∧ IsDs K F' xs acc ∧ lcU gd ga tt te (wipeE E vs) Qa (us.drop (i + 1)) acc m', fun H' h => ⟨us.length - (i + 1), by omega, rfl, hlt, h⟩, fun x H3 hy => ?_⟩
    obtain ⟨F3, c3, g3, iu⟩ := ok.yld i us[i] F2 ro2 H2 m2 x H3 g2 c2 hgd (List.getElem?_eq_getElem hlt) hy
    -- D through a growth
    have keepD : ∀ {Fa ha : Hp} {ra : List Addr} {Fb hb : Hp} {rb : List Addr}, Gro Fa ra ha Fb rb hb → ha D = some (.lst xs) → Fa D = none → D ∉ ra → hb D = some (.lst xs) ∧ Fb D = none ∧ D ∉ rb := fun {Fa ha ra Fb hb rb} g q1 q2 q3 => by
      obtain ⟨z1, z2⟩ := g.fr D _ q1 q3
      refine ⟨z1, z2.trans q2, fun hm => ?_⟩
      obtain ⟨t, et, nt⟩ := g.more
      rw [et] at hm
      rcases List.mem_append.mp hm with z | z
      · exact q3 z
      · rw [nt D z] at q1; cases q1
    refine hg.sim F3 ro2 H3 σ (wipeE E vs) m2 us[i] x _ _ c3 (conE_wipe (ce.mono (g1.trans (g2.trans g3))) vs) iu h2 fun σ4 E4 ce4 ew h4 => ⟨ew, ?_⟩
    refine ⟨F3, ro2, E4, m2, _, c3, ce4, h4, fun F5 ro5 H5 c m5 g5 c5 h5 => ?_⟩
    cases c with
    | true =>
      rw [if_pos rfl] at h5 ⊢
      refine ⟨F5, ro5, E4, m5, _, c5, ce4.mono g5, h5, fun F6 ro6 H6 u6 y m6 g6 c6 i6 h6 => ?_⟩
      revert h6
      split
      · rename_i d
        intro h6
        have g26 := g3.trans (g5.trans g6)
        obtain ⟨q1, q2, q3⟩ := keepD g26 hx hF2 hr2
        refine ⟨xs, q1, by rw [hd.length]; exact h6.1, F6, ro6, m6, acc ++ [d], xs ++ [y], ?_, ?_, upd_same, q2, q3, (IsDs.mono g26.ex hd).append (.cons i6 .nil), h6.2⟩
        · have g16 := g2.trans g26
          refine ⟨g16.ex, g16.more, fun a x z1 z2 => ?_, fun a z => ?_⟩
          · have ne : a ≠ D := ne_of_none z1 hD
            obtain ⟨w1, w2⟩ := g16.fr a x z1 z2
            exact ⟨by rw [upd_ne ne]; exact w1, w2⟩
          · by_cases ea : a = D
            · rw [ea, upd_same]; simp
            · rw [upd_ne ea]; exact g16.st a z
        · refine ⟨fun b o z => ?_, c6.len, c6.nd, fun k a x z1 z2 => ?_⟩
          · have ne : b ≠ D := fun e => by rw [e, q2] at z; cases z
            rw [upd_ne ne]; exact c6.ex b o z
          · have ne : a ≠ D := fun z => q3 (z ▸ List.mem_of_getElem? z1)
            exact (c6.cell k a x z1 z2).grow (Same.refl F6) (fun z => z) (upd_ne ne)
      · exact fun h => h.elim
    | false =>
      rw [if_neg Bool.false_ne_true] at h5 ⊢
      have g25 := g3.trans g5
      obtain ⟨q1, q2, q3⟩ := keepD g25 hx hF2 hr2
      exact ⟨F5, ro5, m5, acc, xs, g2.trans g25, c5, q1, q2, q3, IsDs.mono g25.ex hd, h5⟩
  · have ei : i = us.length := by omega
    subst ei
    rw [List.drop_length] at h2
    refine .inl ⟨ok.stop F2 ro2 H2 m2 g2 c2 h2.1, ?_⟩
    -- the list becomes known
    have e := same_upd (o := HO.lst xs) hF2
    have cK : ConM K (upd F2 D (.lst xs)) ro2 H2 m2 := ⟨fun b o q => by
      by_cases hb : b = D
      · subst hb; rw [upd_same] at q; cases q; exact hx
      · rw [upd_ne hb] at q; exact c2.ex b o q, c2.len, c2.nd, fun k a x z1 z2 => by
      have ne : a ≠ D := fun z => hr2 (z ▸ List.mem_of_getElem? z1)
      exact (c2.cell k a x z1 z2).grow e (fun z => by rw [upd_ne ne]; exact z) rfl⟩
    have gK : Gro F1 ro1 H1 (upd F2 D (.lst xs)) ro2 H2 := ⟨g2.ex.trans e, g2.more, fun a x z1 z2 => by
      have ne : a ≠ D := ne_of_none z1 hD
      obtain ⟨w1, w2⟩ := g2.fr a x z1 z2
      exact ⟨w1, by rw [upd_ne ne]; exact w2⟩, g2.st⟩
    exact (p.at (g1.trans gK)).god cK (IsD.lst upd_same (IsDs.mono e hd)) h2.2
theorem lc_simM {K : PySem.W.Frag} {s : AI} {g : TG} {ga : AG} {tt : AT} {te : AE} {vs : List Nat} (hg : GOwn K g ga vs) (σ : L2.St) (H : Hp) (Q : VK) (h : cE K (dLcM s ga tt te vs) σ H Q) : tLc (cI K s) g (cT K tt) (cE K te) vs σ H Q := by
  obtain ⟨F, ro, E, m, Qa, cm, ce, hf, p⟩ := h
  refine ⟨F, ro, E, m, _, cm, ce, hf, fun F1 ro1 H1 us gd m1 J g1 c1 ok h1 => ?_⟩
  intro D hD
  obtain ⟨hFD, hrD⟩ := c1.new hD
  -- the heap with the list at D, D forgotten
  have base : ∀ l : List V, ConM K F1 ro1 (upd H1 D (.lst l)) m1 ∧ Gro F1 ro1 H1 F1 ro1 (upd H1 D (.lst l)) := fun l => by
    have e := same_upd (o := HO.lst l) hD
    refine ⟨⟨c1.ex.trans e, c1.len, c1.nd, fun k a x q1 q2 => ?_⟩, ⟨Same.refl _, ⟨[], by simp, fun _ h => nomatch h⟩, fun a x q1 q2 => ?_, fun a q1 => ?_⟩⟩
    · have ne : a ≠ D := fun z => hrD (z ▸ List.mem_of_getElem? q1)
      exact (c1.cell k a x q1 q2).grow (Same.refl F1) (fun z => z) (upd_ne ne)
    · exact ⟨by rw [upd_ne (ne_of_none q1 hD)]; exact q1, rfl⟩
    · by_cases z : a = D
      · rw [z, upd_same]; simp
      · rw [upd_ne z]; exact q1
  refine ⟨fun i n H' => n = us.length - i ∧ i ≤ us.length ∧ ∃ F' ro' m' acc xs, Gro F1 ro1 H1 F' ro' H' ∧ ConM K F' ro' H' m' ∧ H' D = some (.lst xs) ∧ F' D = none ∧ D ∉ ro' ∧ IsDs K F' xs acc ∧ lcUM gd ga tt te (wipeE E vs) Qa (us.drop i) acc m',
    ⟨us.length, rfl, Nat.zero_le _, F1, ro1, m1, [], [], (base []).2, (base []).1, upd_same, hFD, hrD, .nil, h1⟩, ?_⟩
  rintro i n H2 ⟨en, hi, F2, ro2, m2, acc, xs, g2, c2, hx, hF2, hr2, hd, h2⟩
  by_cases hlt : i < us.length
  · rw [List.drop_eq_getElem_cons hlt] at h2
    obtain ⟨hgd, h2⟩ := h2
    refine .inr ⟨ok.go i F2 ro2 H2 m2 g2 c2 hgd hlt, fun H' => ∃ F' ro' m' acc xs, Gro F1 ro1 H1 F' ro' H' ∧ ConM K F' ro' H' m' ∧ H' D = some (.lst xs) ∧ F' D = none ∧ D ∉ ro' ∧ IsDs K F' xs acc ∧ lcUM gd ga tt te (wipeE E vs) Qa (us.drop (i + 1)) acc m', fun H' h => ⟨us.length - (i + 1), by omega, rfl, hlt, h⟩, fun x H3 hy => ?_⟩
    obtain ⟨F3, c3, g3, iu⟩ := ok.yld i us[i] F2 ro2 H2 m2 x H3 g2 c2 hgd (List.getElem?_eq_getElem hlt) hy
    -- D through a growth
    have keepD : ∀ {Fa ha : Hp} {ra : List Addr} {Fb hb : Hp} {rb : List Addr}, Gro Fa ra ha Fb rb hb → ha D = some (.lst xs) → Fa D = none → D ∉ ra → hb D = some (.lst xs) ∧ Fb D = none ∧ D ∉ rb := fun {Fa ha ra Fb hb rb} g q1 q2 q3 => by
      obtain ⟨z1, z2⟩ := g.fr D _ q1 q3
      refine ⟨z1, z2.trans q2, fun hm => ?_⟩
      obtain ⟨t, et, nt⟩ := g.more
      rw [et] at hm
      rcases List.mem_append.mp hm with z | z
      · exact q3 z
      · rw [nt D z] at q1; cases q1
    refine hg.sim F3 ro2 H3 σ (wipeE E vs) m2 us[i] x _ _ c3 (conE_wipe (ce.mono (g1.trans (g2.trans g3))) vs) iu h2 fun σ4 E4 ce4 ew h4 => ⟨ew, ?_⟩
    refine ⟨F3, ro2, E4, m2, _, c3, ce4, h4, fun F5 ro5 H5 c m5 g5 c5 h5 => ?_⟩
    cases c with
    | true =>
      rw [if_pos rfl] at h5 ⊢
      refine ⟨F5, ro5, E4, m5, _, c5, ce4.mono g5, h5, fun F6 ro6 H6 u6 y m6 g6 c6 i6 h6 => ?_⟩
      revert h6
      split
      · rename_i d
        intro h6
        have g26 := g3.trans (g5.trans g6)
        obtain ⟨q1, q2, q3⟩ := keepD g26 hx hF2 hr2
        refine ⟨xs, q1, by rw [hd.length]; exact h6.1, F6, ro6, m6, acc ++ [d], xs ++ [y], ?_, ?_, upd_same, q2, q3, (IsDs.mono g26.ex hd).append (.cons i6 .nil), h6.2⟩
        · have g16 := g2.trans g26
          refine ⟨g16.ex, g16.more, fun a x z1 z2 => ?_, fun a z => ?_⟩
          · have ne : a ≠ D := ne_of_none z1 hD
            obtain ⟨w1, w2⟩ := g16.fr a x z1 z2
            exact ⟨by rw [upd_ne ne]; exact w1, w2⟩
          · by_cases ea : a = D
            · rw [ea, upd_same]; simp
            · rw [upd_ne ea]; exact g16.st a z
        · refine ⟨fun b o z => ?_, c6.len, c6.nd, fun k a x z1 z2 => ?_⟩
          · have ne : b ≠ D := fun e => by rw [e, q2] at z; cases z
            rw [upd_ne ne]; exact c6.ex b o z
          · have ne : a ≠ D := fun z => q3 (z ▸ List.mem_of_getElem? z1)
            exact (c6.cell k a x z1 z2).grow (Same.refl F6) (fun z => z) (upd_ne ne)
      · exact fun h => h.elim
    | false =>
      rw [if_neg Bool.false_ne_true] at h5 ⊢
      have g25 := g3.trans g5
      obtain ⟨q1, q2, q3⟩ := keepD g25 hx hF2 hr2
      exact ⟨F5, ro5, m5, acc, xs, g2.trans g25, c5, q1, q2, q3, IsDs.mono g25.ex hd, h5⟩
  · have ei : i = us.length := by omega
    subst ei
    rw [List.drop_length] at h2
    refine .inl ⟨ok.stop F2 ro2 H2 m2 g2 c2 h2.1, ?_⟩
    have cK := c2.adopt hx hF2 hr2 hd
    have gK : Gro F1 ro1 H1 F2 (ro2 ++ [D]) H2 := ⟨g2.ex, by
      obtain ⟨t, et, nt⟩ := g2.more
      exact ⟨t ++ [D], by rw [et, List.append_assoc], fun a ha => by
        rcases List.mem_append.mp ha with z | z
        · exact nt a z
        · have ea : a = D := by simpa using z
          rw [ea]; exact hD⟩, g2.fr, g2.st⟩
    exact (p.at (g1.trans gK)).go (u := .r m2.length) cK (show IsU K F2 (ro2 ++ [D]) (.r m2.length) (.ref D) from ⟨D, by rw [← c2.len, List.getElem?_append_right (Nat.le_refl _)]; simp, rfl⟩) h2.2

theorem de_lc {elt tg iter : Expr} {ifs : List Expr} {scope : Scope} {own : List (Str × Nat)} {pos : Pos} {s : AI} {g : TG} {ga : AG} {tt : AT} {te : AE} {vs : List Nat} (hc : X.calm = true) (hN : X.N.Nodup) (hi : DI X tg iter s) (ok : BlkOk X.N X.env.scope scope own) (hv : own.map (·.2) = vs) (ho : GOwn X.K g ga vs)
    (hg : ∀ (s : Shared) (H : Hp) (C : Addr) (cl : List (Str × Addr)) (fp : List Addr), PG (X.blk s H scope (compEnvC scope cl C X.env) fp) tg g) (ht : ∀ (s : Shared) (H : Hp) (C : Addr) (cl : List (Str × Addr)) (fp : List Addr), DTs (X.blk s H scope (compEnvC scope cl C X.env) fp) ifs tt)
    (he : ∀ (s : Shared) (H : Hp) (C : Addr) (cl : List (Str × Addr)) (fp : List Addr), DE (X.blk s H scope (compEnvC scope cl C X.env) fp) elt te) (hs : ∀ x, foldedSetIterable iter X.env x = pure x := by intro _; rfl) :
    DE X (.ListComp elt [⟨tg, iter, ifs, 0⟩] scope pos) (dLc s ga tt te vs) := by
  subst hv
  exact pe_imp (pe_lc hc hN hi ok hg ht he hs) (lc_sim ho)
theorem de_lcM {elt tg iter : Expr} {ifs : List Expr} {scope : Scope} {own : List (Str × Nat)} {pos : Pos} {s : AI} {g : TG} {ga : AG} {tt : AT} {te : AE} {vs : List Nat} (hc : X.calm = true) (hN : X.N.Nodup) (hi : DI X tg iter s) (ok : BlkOk X.N X.env.scope scope own) (hv : own.map (·.2) = vs) (ho : GOwn X.K g ga vs)
    (hg : ∀ (s : Shared) (H : Hp) (C : Addr) (cl : List (Str × Addr)) (fp : List Addr), PG (X.blk s H scope (compEnvC scope cl C X.env) fp) tg g) (ht : ∀ (s : Shared) (H : Hp) (C : Addr) (cl : List (Str × Addr)) (fp : List Addr), DTs (X.blk s H scope (compEnvC scope cl C X.env) fp) ifs tt)
    (he : ∀ (s : Shared) (H : Hp) (C : Addr) (cl : List (Str × Addr)) (fp : List Addr), DE (X.blk s H scope (compEnvC scope cl C X.env) fp) elt te) (hs : ∀ x, foldedSetIterable iter X.env x = pure x := by intro _; rfl) :
    DE X (.ListComp elt [⟨tg, iter, ifs, 0⟩] scope pos) (dLcM s ga tt te vs) := by
  subst hv
  exact pe_imp (pe_lc hc hN hi ok hg ht he hs) (lc_simM ho)
/-- y = [..], y a local, on one line -/
theorem ds_setLc (i : Nat) {y : Str} {py : Pos} {elt tg iter : Expr} {ifs : List Expr} {scope : Scope} {own : List (Str × Nat)} {pos spos : Pos} {s : AI} {g : TG} {ga : AG} {tt : AT} {te : AE} {vs : List Nat} (hc : X.calm = true) (hN : X.N.Nodup)
    (hsw : swapsWith (.ListComp elt [⟨tg, iter, ifs, 0⟩] scope pos) (some (.Name y py)) spos.line X.env = pure true) (hi : DI X tg iter s) (ok : BlkOk X.N X.env.scope scope own) (hv : own.map (·.2) = vs) (ho : GOwn X.K g ga vs)
    (hg : ∀ (s : Shared) (H : Hp) (C : Addr) (cl : List (Str × Addr)) (fp : List Addr), PG (X.blk s H scope (compEnvC scope cl C X.env) fp) tg g) (ht : ∀ (s : Shared) (H : Hp) (C : Addr) (cl : List (Str × Addr)) (fp : List Addr), DTs (X.blk s H scope (compEnvC scope cl C X.env) fp) ifs tt)
    (he : ∀ (s : Shared) (H : Hp) (C : Addr) (cl : List (Str × Addr)) (fp : List Addr), DE (X.blk s H scope (compEnvC scope cl C X.env) fp) elt te) (hy : X.N[i]? = some y := by rfl) (hyl : X.env.scope.names.lookup y = some .local := by rfl) (hs : ∀ x, foldedSetIterable iter X.env x = pure x := by intro _; rfl) :
    DS X (.Assign [.Name y py] (.ListComp elt [⟨tg, iter, ifs, 0⟩] scope pos) spos) (dAsg i (dLc s ga tt te vs)) := by
  subst hv
  refine ps_imp (ps_setLc (tt := cT X.K tt) (te := cE X.K te) hc hN hy hyl hsw hi ok hg ht he hs) fun D σ H h => ?_
  obtain ⟨F, ro, E, m, Da, c, ce, hf, p⟩ := h
  exact lc_sim (K := X.K) (s := s) (ga := ga) (tt := tt) (te := te) ho σ H (fun x H1 => gName i x σ H1 D.nx) ⟨F, ro, E, m, _, c, ce, hf, fun F1 ro1 H1 u v m1 g1 c1 i1 h1 => p.nx F1 ro1 H1 _ _ m1 g1 c1 ((ce.mono g1).set i i1) h1⟩
theorem ds_setLcM (i : Nat) {y : Str} {py : Pos} {elt tg iter : Expr} {ifs : List Expr} {scope : Scope} {own : List (Str × Nat)} {pos spos : Pos} {s : AI} {g : TG} {ga : AG} {tt : AT} {te : AE} {vs : List Nat} (hc : X.calm = true) (hN : X.N.Nodup)
    (hsw : swapsWith (.ListComp elt [⟨tg, iter, ifs, 0⟩] scope pos) (some (.Name y py)) spos.line X.env = pure true) (hi : DI X tg iter s) (ok : BlkOk X.N X.env.scope scope own) (hv : own.map (·.2) = vs) (ho : GOwn X.K g ga vs)
    (hg : ∀ (s : Shared) (H : Hp) (C : Addr) (cl : List (Str × Addr)) (fp : List Addr), PG (X.blk s H scope (compEnvC scope cl C X.env) fp) tg g) (ht : ∀ (s : Shared) (H : Hp) (C : Addr) (cl : List (Str × Addr)) (fp : List Addr), DTs (X.blk s H scope (compEnvC scope cl C X.env) fp) ifs tt)
    (he : ∀ (s : Shared) (H : Hp) (C : Addr) (cl : List (Str × Addr)) (fp : List Addr), DE (X.blk s H scope (compEnvC scope cl C X.env) fp) elt te) (hy : X.N[i]? = some y := by rfl) (hyl : X.env.scope.names.lookup y = some .local := by rfl) (hs : ∀ x, foldedSetIterable iter X.env x = pure x := by intro _; rfl) :
    DS X (.Assign [.Name y py] (.ListComp elt [⟨tg, iter, ifs, 0⟩] scope pos) spos) (dAsg i (dLcM s ga tt te vs)) := by
  subst hv
  refine ps_imp (ps_setLc (tt := cT X.K tt) (te := cE X.K te) hc hN hy hyl hsw hi ok hg ht he hs) fun D σ H h => ?_
  obtain ⟨F, ro, E, m, Da, c, ce, hf, p⟩ := h
  exact lc_simM (K := X.K) (s := s) (ga := ga) (tt := tt) (te := te) ho σ H (fun x H1 => gName i x σ H1 D.nx) ⟨F, ro, E, m, _, c, ce, hf, fun F1 ro1 H1 u v m1 g1 c1 i1 h1 => p.nx F1 ro1 H1 _ _ m1 g1 c1 ((ce.mono g1).set i i1) h1⟩
end

/-! ### defs -/
abbrev ASp := List U → Sto → QA → Prop
def cSp (K : PySem.W.Frag) (a : ASp) : Sp := fun vs H Q _ => ∃ F ro m us Qa, ConM K F ro H m ∧ IsUs K F ro us vs ∧ a us m Qa ∧ Post K F ro H Qa Q
/-- as FnOk, where nothing is being shown (repr's guards) -/
structure FnG (P : Program) (w : World) (K : PySem.W.Frag) (mg : Str → Option Value) (base : Heap) (k : Nat) (f : Addr) (fd : FuncData) (ps : List Str) (a : ASp) : Prop where
  len : ∀ us m Q, a us m Q → us.length = ps.length
  run : ∀ (A : Around) (outer : List Env) (s : Shared) (H : Hp) (args : Args) (us : List Value) (vs : List V) (Q : VK) (E : XK), Room k A → A.guards = some [] → Env0 P w K mg base A outer s H → BindsTo s fd args (ps.zip us) → Vals vs us → cSp K a vs H Q E →
    codeAny (model P w) A (.call (.ref f) args) (CR CX0 outer P w H s Q E) s
theorem FnG.mono {P : Program} {w : World} {K : PySem.W.Frag} {mg : Str → Option Value} {base : Heap} {j k : Nat} {f : Addr} {fd : FuncData} {ps : List Str} {a : ASp} (F : FnG P w K mg base j f fd ps a) (h : j ≤ k) : FnG P w K mg base k f fd ps a :=
  ⟨F.len, fun A outer s H args us vs Q E hr => F.run A outer s H args us vs Q E (hr.mono h)⟩
theorem FnG.imp {P : Program} {w : World} {K : PySem.W.Frag} {mg : Str → Option Value} {base : Heap} {k : Nat} {f : Addr} {fd : FuncData} {ps : List Str} {a a' : ASp} (F : FnG P w K mg base k f fd ps a) (h : ∀ us m Q, a' us m Q → a us m Q) : FnG P w K mg base k f fd ps a' :=
  ⟨fun us m Q q => F.len us m Q (h us m Q q), fun A outer s H args us vs Q E hr hg e0 hb r ⟨F', ro, m, us', Qa, c, iu, ha, p⟩ => F.run A outer s H args us vs Q E hr hg e0 hb r ⟨F', ro, m, us', Qa, c, iu, h _ _ _ ha, p⟩⟩
def dCall (a : ASp) (t : AA) : AE := fun E m Q => t E m fun us m1 => a us m1 Q
section
variable {X : Cx} {k : Nat} {f : Addr} {fd : FuncData} {ps : List Str} {a : ASp} {x : Str} {p pos : Pos} {e : Expr} {es : List Expr} {g : AA}
theorem run_fnG {pins : List (Addr × Obj)} {σ : L2.St} {H : Hp} {s : Shared} {Q : VK} {us : List Value} {vs : List V} (F : FnG X.prog X.w X.K X.mg X.base k f fd ps a) (hr : Room k X.A) (hg : X.A.guards = some []) (hb : Binds X.K fd ps [])
    (I : Inv X pins σ H s) (r : Vals vs us) (h : cSp X.K a vs H Q E0) : wpAny (model X.prog X.w) X.A (call (.ref f) us) (EP X pins σ Q) X.xe s := by
  have hl : us.length = ps.length := by
    obtain ⟨F', ro, m, us', Qa, c, iu, ha, p⟩ := h
    rw [← r.length, ← iu.length]
    exact F.len _ _ _ ha
  have hb' := hb s us I.kIn (by simpa using hl)
  rw [List.append_nil] at hb'
  refine wpAny_call (codeAny_mono (F.run X.A X.stack s H ⟨us, []⟩ us vs Q E0 hr hg I.env0 hb' r h) fun r s' hq => ?_)
  cases r with
  | error e => exact hq.elim
  | ok fl =>
    cases fl with
    | ret u => exact I.after hq
    | next => exact False.elim hq
    | brk => exact False.elim hq
    | cont => exact False.elim hq
theorem de_call (F : FnG X.prog X.w X.K X.mg X.base k f fd ps a) (hr : Room k X.A) (hgd : X.A.guards = some []) (hm : X.mg x = some (.ref f)) (hk : PySem.W.keepIn X.K (.ref f) = true) (hb : Binds X.K fd ps []) (ha : DA X (e :: es) g) (hg : Gl X x := by rfl)
    (hdb : (x == ("__debug__" : Str)) = false := by decide) (he : starEach (e :: es) X.env = (false, eval e X.env) :: starEach es X.env := by rfl) (hpl : (backTo pos (starEach es X.env)).any (·.1) = false := by rfl) :
    DE X (.Call (.Name x p) (e :: es) [] pos) (dCall a g) := by
  refine ⟨fun pins s σ H Q I h => ?_⟩
  obtain ⟨F0, ro, E, m, Qa, cm, ce, hf, p⟩ := h
  refine wpAny_Call_Name_kw (ld_glob I hg hm ?_ hdb)
  refine PySem.W.callWith_K (h₀ := X.base) I.ok.mod.kin hk (thn (ha.run pos pins s σ H (fun vs H1 => cSp X.K a vs H1 Q E0) I ⟨F0, ro, E, m, _, cm, ce, hf, fun F1 ro1 H1 us vs m1 g1 c1 i1 h1 => ⟨F1, ro1, m1, us, Qa, c1, i1, h1, p.at g1⟩⟩) fun us s1 ⟨vs, H1, I1, r, q⟩ => ⟨I1.kIn, ?_⟩) he hpl
  exact run_fnG F hr hgd hb I1 r q
theorem de_call0 (F : FnG X.prog X.w X.K X.mg X.base k f fd ps a) (hr : Room k X.A) (hgd : X.A.guards = some []) (hm : X.mg x = some (.ref f)) (hk : PySem.W.keepIn X.K (.ref f) = true) (hb : Binds X.K fd ps []) (hg : Gl X x := by rfl)
    (hdb : (x == ("__debug__" : Str)) = false := by decide) : DE X (.Call (.Name x p) [] [] pos) (dCall a dNil) := by
  refine ⟨fun pins s σ H Q I h => ?_⟩
  obtain ⟨F0, ro, E, m, Qa, cm, ce, hf, p⟩ := h
  refine wpAny_Call_Name_kw (ld_glob I hg hm ?_ hdb)
  exact PySem.W.callWith_K0 I.kIn hk (run_fnG (us := []) F hr hgd hb I .nil ⟨F0, ro, m, [], Qa, cm, .nil, hf, p⟩)
end
/-- a def's slots at its start -/
def startU (n : Nat) (us : List U) : En := us.map some ++ List.replicate (n - us.length) none
/-- what a def hands back: data, a cell of its caller, a new cell; its own cells are forgotten -/
def retD (n : Nat) (Q : QA) : QA := fun u m => match u with
  | .v d => Q (.v d) (m.take n)
  | .r k => if k < n then Q (.r k) (m.take n) else match m[k]? with
    | some (.lst l) => Q (.r n) (m.take n ++ [.lst l])
    | some (.dct l) => Q (.r n) (m.take n ++ [.dct l])
    | _ => False
  | .s _ => False
  | .o t => Q (.o t) (m.take n)
def endsD (n : Nat) (Q : QA) : AEnds := ⟨fun _ m => retD n Q (.v .none) m, retD n Q, fun _ _ => False, fun _ _ => False⟩
section
variable {P : Program} {w : World} {K : PySem.W.Frag} {mg : Str → Option Value} {base : Heap}
theorem FnG.of {x qual : Str} {st : Stmt} {f : Addr} {fd : FuncData} {N ps : List Str} {k : Nat} {a : ASp} {g : AS} (F : Fun K x qual st f fd) (S : FnScope N ps (defScope st)) (len : ∀ us m Q, a us m Q → us.length = ps.length)
    (body : ∀ (cdv : Value) (A : Around) (outer : List Env) (s : Shared) (H : Hp) (E : XK), Room k (A.deeper (envOfC qual (defScope st) s.heap.objs.size f cdv)) → (A.deeper (envOfC qual (defScope st) s.heap.objs.size f cdv)).guards = some [] →
      DSs (cxOf CX0 P w K mg base N qual (defScope st) f cdv A outer s H E).nox (defBody st) g)
    (sem : ∀ us m Q, a us m Q → g (endsD m.length Q) (startU N.length us) m) : FnG P w K mg base (k + 1) f fd ps a := by
  obtain ⟨oc, od, kV, doc, pm, an, cdv, ct, osl, rfl, lk, hcd⟩ := F.ex
  refine ⟨len, fun A outer s H args us vs Q E hr hg e0 hb r hsp => ?_⟩
  obtain ⟨F0, ro, m, us', Qa, cm, iu, ha, p⟩ := hsp
  have hl : vs.length = ps.length := by rw [← iu.length]; exact len _ _ _ ha
  have hpl : ps.length ≤ N.length := by have := congrArg List.length S.pre; rw [List.length_take] at this; omega
  have KX : K.In s.heap := e0.mod.kin.keeps fun b o e => (e0.bs b o e).1
  have lim : s.heap.NoLimit := e0.mod.nolimit.keeps fun b o e => (e0.bs b o e).1
  have hkind : ∀ y ∈ ps.zip us, (defScope st).names.lookup y.1 = some .local ∨ ((defScope st).names.lookup y.1 = some .cell ∧ ((cellsFrom (s.heap.objs.size + 1) (defScope st).names []).lookup y.1).isSome = true) := fun ⟨n, v⟩ hy => by
    rcases S.par n (List.of_mem_zip hy).1 with q | q
    · exact .inl q
    · exact .inr ⟨q, PySem.W.cellsFrom_some _ _ _ (.inl q)⟩
  refine codeAny_call_function hr.depth (KX _ _ lk) rfl S.co S.gen rfl (PySem.W.codeRec_of KX hcd) (hb _ _ _ _ ?_)
  refine wpAny_newFunctionEnv_cells S.kind hkind fun env he s1 x => ?_
  subst he
  refine ⟨lim.keeps x.toInCall.keep, codeAny_func ?_⟩
  have ht := PSs.nox (body cdv A outer s H E (hr.deeper _) (by
    show ((A.deeper _).guards) = some []
    exact hg))
  have I : Inv (cxOf CX0 P w K mg base N qual (defScope st) f cdv A outer s H E) [] (L2.start N vs) H s1 := inv_start S hr.hd e0 hl r x
  have ce : ConE K F0 ro (L2.start N vs) (startU N.length us') := by
    have hlu : us'.length = vs.length := iu.length
    refine ⟨by unfold L2.start startU; simp; omega, fun i u e => ?_⟩
    have hi : i < us'.length := by
      unfold startU at e
      by_cases hi : i < us'.length
      · exact hi
      · rw [List.getElem?_append_right (by simpa using hi), List.getElem?_replicate] at e
        split at e <;> cases e
    unfold startU at e
    rw [List.getElem?_append_left (by simpa using hi), List.getElem?_map] at e
    have get : ∀ {us : List U} {vs : List V} {i : Nat} {u : U}, IsUs K F0 ro us vs → us[i]? = some u → ∃ v, vs[i]? = some v ∧ IsU K F0 ro u v := by
      intro us vs i u h
      induction h generalizing i with
      | nil => intro e; simp at e
      | cons a b ih =>
        intro e
        cases i with
        | zero => simp at e; subst e; exact ⟨_, rfl, a⟩
        | succ i =>
          obtain ⟨v, q1, q2⟩ := ih (i := i) (by simpa using e)
          exact ⟨v, by simpa using q1, q2⟩
    obtain ⟨u', e1, e2⟩ := Option.map_eq_some_iff.mp e
    cases e2
    obtain ⟨v, q1, q2⟩ := get iu e1
    refine ⟨v, ?_, q2⟩
    unfold L2.start
    rw [List.getElem?_append_left (by simp; omega), List.getElem?_map, q1]
    rfl
  have fin : ∀ (F' : Hp) (ro' : List Addr) (H' : Hp) (u : U) (v : V) (m' : Sto), Gro F0 ro H F' ro' H' → ConM K F' ro' H' m' → IsU K F' ro' u v → retD m.length Qa u m' → Q v H' := fun F' ro' H' u v m' g' c' i' q' => by
    obtain ⟨t, et, nt⟩ := g'.more
    subst et
    have cc := c'.cut
    rw [cm.len] at cc
    cases u with
    | v d => exact p F' ro H' (.v d) v _ g'.cut cc i' q'
    | s ns => exact q'.elim
    | o t => exact p F' ro H' (.o t) v _ g'.cut cc i' q'
    | r k =>
      obtain ⟨b, e1, e2⟩ := i'
      by_cases hk : k < m.length
      · have q2 : Qa (.r k) (m'.take m.length) := by
          have q3 := q'
          unfold retD at q3
          simp only [hk, if_true] at q3
          exact q3
        rw [List.getElem?_append_left (by rw [cm.len]; exact hk)] at e1
        exact p F' ro H' (.r k) v _ g'.cut cc ⟨b, e1, e2⟩ q2
      · have q3 := q'
        unfold retD at q3
        simp only [hk, if_false] at q3
        split at q3
        · rename_i l el
          obtain ⟨hF, xs, hx, hd⟩ : CellOk K F' H' b (.lst l) := c'.cell k b _ e1 el
          have hb : b ∈ t := by
            rw [List.getElem?_append_right (by rw [cm.len]; omega)] at e1
            exact List.mem_of_getElem? e1
          have hnr : b ∉ ro := fun z => (List.nodup_append.mp c'.nd).2.2 b z b hb rfl
          have c2 := cc.adopt hx hF hnr hd
          have g2 : Gro F0 ro H F' (ro ++ [b]) H' := ⟨g'.ex, ⟨[b], rfl, fun a ha => by
            have ea : a = b := by simpa using ha
            rw [ea]; exact nt b hb⟩, g'.fr, g'.st⟩
          exact p F' (ro ++ [b]) H' (.r m.length) v _ g2 c2 ⟨b, by rw [← cm.len, List.getElem?_append_right (Nat.le_refl _)]; simp, e2⟩ q3
        · rename_i l el
          obtain ⟨hF, xs, hx, hd⟩ : CellOk K F' H' b (.dct l) := c'.cell k b _ e1 el
          have hb : b ∈ t := by
            rw [List.getElem?_append_right (by rw [cm.len]; omega)] at e1
            exact List.mem_of_getElem? e1
          have hnr : b ∉ ro := fun z => (List.nodup_append.mp c'.nd).2.2 b z b hb rfl
          have c2 := cc.dctAdopt hx hF hnr hd
          have g2 : Gro F0 ro H F' (ro ++ [b]) H' := ⟨g'.ex, ⟨[b], rfl, fun a ha => by
            have ea : a = b := by simpa using ha
            rw [ea]; exact nt b hb⟩, g'.fr, g'.st⟩
          exact p F' (ro ++ [b]) H' (.r m.length) v _ g2 c2 ⟨b, by rw [← cm.len, List.getElem?_append_right (Nat.le_refl _)]; simp, e2⟩ q3
        · exact q3.elim
  refine wpAny_mono (ht.run [] s1 (L2.start N vs) H { nx := fun _ H' => Q .non H', rt := Q } I ⟨F0, ro, startU N.length us', m, endsD m.length Qa, cm, ce, sem us' m Qa ha, ?_⟩) (fun fl s' hs => ?_) fun e s' hs => hs
  · exact ⟨fun F' ro' H' σ' E' m' g' c' _ q' => fin F' ro' H' (.v .none) .non m' g' c' .non q', fun F' ro' H' u v m' g' c' i' q' => fin F' ro' H' u v m' g' c' i' q', fun _ _ _ _ _ _ _ _ _ q => q.elim, fun _ _ _ _ _ _ _ _ _ q => q.elim⟩
  have fin2 : ∀ {σ' : L2.St} {H' : Hp} {v : V} {u : Value}, Inv (cxOf CX0 P w K mg base N qual (defScope st) f cdv A outer s H E) [] σ' H' s' → RelV v u → Q v H' → CE outer P w H s Q u s' :=
    fun {σ' H' v u} J rv q => ⟨v, H', J.os, J.bare, J.base, J.hok, rv, q⟩
  cases fl with
  | ret u =>
    obtain ⟨v, σ', H', J, rv, q⟩ := hs
    exact fin2 J rv q
  | next =>
    obtain ⟨σ', H', J, q⟩ := hs
    exact fin2 (v := V.non) (u := Value.none) J rfl q
  | brk =>
    obtain ⟨_, _, _, q⟩ := hs
    exact False.elim q
  | cont =>
    obtain ⟨_, _, _, q⟩ := hs
    exact False.elim q
end
end Z
/-! Z4: operators, built-ins and methods over data and cells. -/
namespace Z
open PySem PySem.Spec PyProof.Rows L2

/-- a new list: a cell, or data -/
def nw (mu : Bool) (l : List PyData) (m : Sto) (Q : QA) : Prop := match mu with
  | true => Q (.r m.length) (m ++ [.lst l])
  | false => Q (.v (.list l)) m
section
variable {K : PySem.W.Frag} {F F1 H H1 : Hp} {ro ro1 : List Addr} {m : Sto} {Qa : QA} {Q : VK}
theorem Post.nw (p : Post K F ro H Qa Q) (c : ConM K F ro H m) (mu : Bool) {xs : List V} {l : List PyData} (h : IsDs K F xs l) (q : Z.nw mu l m Qa) : ∀ b, H b = none → Q (.ref b) (upd H b (.lst xs)) := by
  cases mu with
  | true => exact p.newC c h q
  | false => exact p.newL c h q
end

/-! ### arithmetic -/
def aAdd (mu : Bool) : R2A := fun a b m Q => match a, b with
  | .v (.int i), .v (.int j) => Q (.v (.int (i + j))) m
  | .v (.str x), .v (.str y) => x.length + y.length ≤ sizeLine ∧ Q (.v (.str (x ++ y))) m
  | a, b => match asL m a, asL m b with
    | some x, some y => x.length + y.length ≤ sizeLine ∧ nw mu (x ++ y) m Q
    | _, _ => False
def rAddL : R2 := fun x y H Q => ∃ l b xs zs, x = .ref l ∧ y = .ref b ∧ Rd H l (.lst xs) ∧ Rd H b (.lst zs) ∧ xs.length + zs.length ≤ sizeLine ∧ ∀ p, H p = none → Q (.ref p) (upd H p (.lst (xs ++ zs)))
def rAddS : R2 := fun x y H Q => ∃ i j, x = .str i ∧ y = .str j ∧ i.length + j.length ≤ sizeLine ∧ Q (.str (i ++ j)) H
def rAddAll : R2 := fun x y H Q => rI0 (fun i j => .int (i + j)) x y H Q ∨ rAddS x y H Q ∨ rAddL x y H Q
section
variable {X : Cx}
theorem op_addL : OpR X (binaryOp .Add) rAddL := by
  intro pins s σ H x y v u Q I rx ry h
  obtain ⟨l, b, xs, zs, rfl, rfl, hH, hB, hz, q⟩ := h
  cases rx
  cases ry
  obtain ⟨z, its, n, r, e⟩ := hH.ok I.hok
  obtain ⟨z2, its2, n2, r2, e2⟩ := hB.ok I.hok
  have hl := r.length
  have hl2 := r2.length
  refine PySem.P.add_list e e2 ?_ (by rw [List.size_toArray, List.size_toArray]; omega)
  have ea : its.toArray ++ its2.toArray = (its ++ its2).toArray := by simp
  rw [ea]
  exact ⟨.ref _, _, I.lnew (t' := s.toks) (r.append r2) (by rw [List.length_append]; omega), rfl, q _ I.fresh⟩
theorem op_addAll : OpR X (binaryOp .Add) rAddAll := op_add.or (op_add_str.or op_addL)
theorem sim_add {K : PySem.W.Frag} (mu : Bool) : Sim2 K rAddAll (aAdd mu) := by
  intro F ro H m a b v w Q Qa c ia ib h p
  unfold aAdd at h
  split at h
  · cases ia; cases ib; exact .inl ⟨_, _, rfl, rfl, p.god c (.int _) h⟩
  · cases ia; cases ib; exact .inr (.inl ⟨_, _, rfl, rfl, h.1, p.god c (.str _) h.2⟩)
  · split at h
    · rename_i x y ex ey
      obtain ⟨a1, xs, rfl, r1, d1⟩ := asL_sq c ia ex
      obtain ⟨a2, ys, rfl, r2, d2⟩ := asL_sq c ib ey
      exact .inr (.inr ⟨_, _, _, _, rfl, rfl, r1, r2, by rw [d1.length, d2.length]; exact h.1, p.nw c mu (d1.append d2) h.2⟩)
    · exact h.elim
def aI (f : Int → Int → Int) : R2A := fun a b m Q => match a, b with
  | .v (.int i), .v (.int j) => Q (.v (.int (f i j))) m
  | _, _ => False
theorem sim_I {K : PySem.W.Frag} (f : Int → Int → Int) : Sim2 K (rI0 fun i j => .int (f i j)) (aI f) := by
  intro F ro H m a b v w Q Qa c ia ib h p
  unfold aI at h
  split at h
  · cases ia; cases ib; exact ⟨_, _, rfl, rfl, p.god c (.int _) h⟩
  · exact h.elim
def aIc (C : Int → Int → Prop) (f : Int → Int → Int) : R2A := fun a b m Q => match a, b with
  | .v (.int i), .v (.int j) => C i j ∧ Q (.v (.int (f i j))) m
  | _, _ => False
theorem sim_Ic {K : PySem.W.Frag} (C : Int → Int → Prop) (f : Int → Int → Int) : Sim2 K (rI C fun i j => .int (f i j)) (aIc C f) := by
  intro F ro H m a b v w Q Qa c ia ib h p
  unfold aIc at h
  split at h
  · cases ia; cases ib; exact ⟨_, _, rfl, rfl, h.1, p.god c (.int _) h.2⟩
  · exact h.elim
def aB (f : Int → Int → Bool) : R2A := fun a b m Q => match a, b with
  | .v (.int i), .v (.int j) => Q (.v (.bool (f i j))) m
  | _, _ => False
theorem sim_B {K : PySem.W.Frag} (f : Int → Int → Bool) : Sim2 K (rI0 fun i j => .bl (f i j)) (aB f) := by
  intro F ro H m a b v w Q Qa c ia ib h p
  unfold aB at h
  split at h
  · cases ia; cases ib; exact ⟨_, _, rfl, rfl, p.god c (.bl _) h⟩
  · exact h.elim
abbrev aSub : R2A := aI fun i j => i - j
/-- // by a positive divisor, below 2^62 or of few bits -/
def CDv (_ j : Int) : Prop := 0 < j ∧ (j < 4611686018427387904 ∨ j.natAbs.log2 < 9000)
abbrev aDiv : R2A := aIc CDv fun i j => i / j
theorem op_div : OpR X (binaryOp .FloorDiv) (rI CDv fun i j => .int (i / j)) := opI fun i j _ _ _ _ _ hc q => by
  have h1 : (0 : Int) < j := hc.1
  refine floordiv_int (by omega) (by rw [Int.fdiv_eq_ediv_of_nonneg i (by omega)]; exact q) (.inl (PyProof.noPylong_of_log2 ?_))
  rcases hc.2 with h | h
  · have hb : j.natAbs < 2 ^ 62 := by omega
    have := PySem.Flt.log2_lt_of (by decide : 0 < 62) hb
    omega
  · exact h
abbrev aMod : R2A := aIc (fun _ j => 0 < j) fun i j => i % j
/-- a ** b -/
def CPw (i j : Int) : Prop := 0 ≤ j ∧ ((j ≤ 1000000 ∧ i.natAbs < 2 ^ 64) ∨ (Builtin.Int.intBits i : Int) * j ≤ 2 ^ 27)
abbrev aPow : R2A := aIc CPw fun i j => i ^ j.toNat
theorem op_powZ : OpR X (binaryOp .Pow) (rI CPw fun i j => .int (i ^ j.toNat)) := opI fun i j _ _ _ _ _ hc q => by
  rcases hc.2 with h | h
  · exact pow_int_small hc.1 h.1 h.2 q
  · exact pow_int hc.1 h q
/-- a * b: ints; a list and an int -/
def CMl (i j : Int) : Prop := CMul i j ∨ CMulW i j
def aMul (mu : Bool) : R2A := fun a b m Q => match a, b with
  | .v (.int i), .v (.int j) => CMl i j ∧ Q (.v (.int (i * j))) m
  | a, .v (.int k) => (match asL m a with
    | some l => l.length * k.toNat ≤ sizeLine ∧ -(2 ^ 63) ≤ k ∧ k < 2 ^ 63 ∧ nw mu (List.replicate k.toNat l).flatten m Q
    | none => False)
  | _, _ => False
def rMulL : R2 := fun x y H Q => ∃ l k xs, x = .ref l ∧ y = .int k ∧ Rd H l (.lst xs) ∧ -(2 ^ 63) ≤ k ∧ k < 2 ^ 63 ∧ xs.length * k.toNat ≤ sizeLine ∧
  ∀ p, H p = none → Q (.ref p) (upd H p (.lst (List.replicate k.toNat xs).flatten))
theorem op_mulL : OpR X (binaryOp .Mult) rMulL := by
  intro pins s σ H x y v u Q I rx ry h
  obtain ⟨l, k, xs, rfl, rfl, hH, h1, h2, hz, q⟩ := h
  cases rx
  obtain ⟨t, rfl⟩ := ry
  obtain ⟨z, its, n, r, e⟩ := hH.ok I.hok
  have hl := r.length
  have hlen : its.toArray.size * k.toNat ≤ sizeLine := by rw [List.size_toArray, ← hl]; exact hz
  have hcap : ¬ its.toArray.size * k.toNat > (2 ^ 63 - 1) / 8 := by
    have : (sizeLine : Nat) ≤ (2 ^ 63 - 1) / 8 := by decide
    omega
  have hfit : ¬ (!Builtin.List.listFitsIndex k) = true := by
    rw [fitsIndex_both h1 h2]
    exact Bool.false_ne_true
  have hlong : ¬ Builtin.List.listTooLong (its.toArray.size * k.toNat) = true := by
    rw [notLongL hlen]
    exact Bool.false_ne_true
  have hnew : List.foldl (fun x1 x2 => x1 ++ x2) #[] (List.replicate (if its.toArray.isEmpty = true then 0 else k.toNat) its.toArray) = (List.replicate k.toNat its).flatten.toArray := by
    have f0 : ∀ m : Nat, List.foldl (fun x1 x2 => x1 ++ x2) #[] (List.replicate m its.toArray) = (List.replicate m its).flatten.toArray := fun m => by
      have := foldl_rep its m []
      rw [List.nil_append] at this
      exact this
    rw [f0]
    cases its with
    | nil => simp
    | cons a r' => rw [if_neg (by simp)]
  refine wpAny_binaryOp_repeat_ref (T := "list") (U := "int") (by decide) ⟨_, e, rfl⟩ (fun s' => typeIs_int s' k t) noFill_list_mul F.fills_int_mul F.slot_int_rmul repeat_list F.slot_int_index.lookup
    (call_meets F.slot_int_rmul (typeIs_int s k t) F.entry_int_rmul (F.args_int_rmul_2 _ _) (int___rmul___int_list k t l its.toArray n)
      ⟨e, rfl, ⟨_, e, rfl⟩, call_meets F.slot_list_mul ⟨_, e, rfl⟩ F.entry_list_mul (F.args_list_mul_2 _ _) (AutoListH.list___mul___list_int_3 l its.toArray n k t hfit hcap hlong) ⟨e, ?_⟩⟩)
  rw [hnew]
  exact ⟨.ref _, _, I.lnew (t' := s.toks) (r.rep k.toNat) (by rw [PyProof.Rows.lm_len_rep_flat, Nat.mul_comm]; exact hz), rfl, q _ I.fresh⟩
def rMulAll : R2 := fun x y H Q => rI CMl (fun i j => .int (i * j)) x y H Q ∨ rMulL x y H Q
theorem op_mulAll : OpR X (binaryOp .Mult) rMulAll := by
  refine OpR.or ?_ op_mulL
  intro pins s σ H x y v u Q I rx ry h
  obtain ⟨i, j, rfl, rfl, hc, q⟩ := h
  rcases hc with hc | hc
  · exact op_mul pins s σ H _ _ v u Q I rx ry ⟨i, j, rfl, rfl, hc, q⟩
  · exact op_mulW pins s σ H _ _ v u Q I rx ry ⟨i, j, rfl, rfl, hc, q⟩
theorem sim_mul {K : PySem.W.Frag} (mu : Bool) : Sim2 K rMulAll (aMul mu) := by
  intro F ro H m a b v w Q Qa c ia ib h p
  unfold aMul at h
  split at h
  · cases ia; cases ib; exact .inl ⟨_, _, rfl, rfl, h.1, p.god c (.int _) h.2⟩
  · split at h
    · rename_i x ex
      obtain ⟨a1, xs, rfl, r1, d1⟩ := asL_sq c ia ex
      cases ib
      exact .inr ⟨_, _, _, rfl, rfl, r1, h.2.1, h.2.2.1, by rw [d1.length]; exact h.1, p.nw c mu (d1.rep _) h.2.2.2⟩
    · exact h.elim
  · exact h.elim
def aNeg : U → Sto → QA → Prop := fun a m Q => match a with
  | .v (.int i) => Q (.v (.int (-i))) m
  | _ => False
theorem sim_neg {K : PySem.W.Frag} : Sim1 K (rU fun i => .int (-i)) aNeg := by
  intro F ro H m a v Q Qa c ia h p
  unfold aNeg at h
  split at h
  · cases ia; exact ⟨_, rfl, p.god c (.int _) h⟩
  · exact h.elim

/-! ### == and its kin -/
mutual
theorem IsD.dp {K : PySem.W.Frag} {H : Hp} : ∀ {d : PyData} {v : V}, IsD K H v d → d.canLay0 = true → Dp K H v d
  | .none, _, h, _ => by cases h; exact .non
  | .bool _, _, h, _ => by cases h; exact .bl _
  | .int _, _, h, _ => by cases h; exact .int _
  | .str _, _, h, _ => by cases h; exact .str _
  | .list ds, _, h, e => by
    cases h with
    | lst h1 h2 => exact .lst (Or.inl (Or.inl h1)) (IsDs.dp h2 (by simpa [PyData.canLay0] using e))
  | .tuple ds, _, h, e => by
    cases h with
    | tup h1 h2 => exact .tup (Or.inl h1) (IsDs.dp h2 (by simpa [PyData.canLay0] using e))
  | .dict _, _, _, e => by simp [PyData.canLay0] at e
theorem IsDs.dp {K : PySem.W.Frag} {H : Hp} : ∀ {ds : List PyData} {vs : List V}, IsDs K H vs ds → PyData.canLayAll0 ds = true → DpAll K H vs ds
  | [], _, h, _ => by cases h; exact .nil
  | d :: ds, _, h, e => by
    cases h with
    | cons h1 h2 =>
      simp only [PyData.canLayAll0, Bool.and_eq_true] at e
      exact .cons (IsD.dp h1 e.1) (IsDs.dp h2 e.2)
end
/-- data that == can be asked of: laid out, or two strs -/
def shE : PyData → PyData → Bool
  | .str _, .str _ => true
  | d, _ => SeqAt.shaped d
def aEq : R2A := fun a b m Q => match asD m a, asD m b with
  | some d, some e => shE d e = true ∧ shE e d = true ∧ Q (.v (.bool (PyData.eqv d e))) m
  | _, _ => False
def aNe : R2A := fun a b m Q => match asD m a, asD m b with
  | some d, some e => shE d e = true ∧ shE e d = true ∧ Q (.v (.bool (!PyData.eqv d e))) m
  | _, _ => False
def rEqX (K : PySem.W.Frag) : R2 := fun x y H Q => rEqD K x y H Q ∨ rEq x y H Q
def rNeX (K : PySem.W.Frag) : R2 := fun x y H Q => rNeD K x y H Q ∨ rNe x y H Q
theorem op_eqX {X : Cx} (hu : X.A.units + 64 < cLine) : OpR X (compareOp .Eq) (rEqX X.K) := by
  intro pins s σ H x y v u Q I rx ry h
  rcases h with h | h
  · exact op_eqD hu pins s σ H x y v u Q I rx ry h
  · exact op_eq pins s σ H x y v u Q I rx ry h
theorem op_neX {X : Cx} (hu : X.A.units + 64 < cLine) : OpR X (compareOp .NotEq) (rNeX X.K) := by
  intro pins s σ H x y v u Q I rx ry h
  rcases h with h | h
  · exact op_neD hu pins s σ H x y v u Q I rx ry h
  · exact op_ne pins s σ H x y v u Q I rx ry h
theorem shE_cases {d e : PyData} (h1 : shE d e = true) (h2 : shE e d = true) : (SeqAt.shaped d = true ∧ SeqAt.shaped e = true) ∨ ∃ x y, d = .str x ∧ e = .str y := by
  cases d <;> cases e <;> first | exact .inr ⟨_, _, rfl, rfl⟩ | exact .inl ⟨h1, h2⟩
theorem shE_i (i : Int) (e : PyData) : shE (.int i) e = true := rfl
theorem shE_b (b : Bool) (e : PyData) : shE (.bool b) e = true := rfl
theorem shE_n (e : PyData) : shE .none e = true := rfl
theorem shE_s (x y : Str) : shE (.str x) (.str y) = true := rfl
theorem shE_l (l : List PyData) (e : PyData) : shE (.list l) e = SeqAt.shaped (.list l) := rfl
theorem shE_t (l : List PyData) (e : PyData) : shE (.tuple l) e = SeqAt.shaped (.tuple l) := rfl
theorem eqv_ss (x y : Str) : decide (V.str x = V.str y) = PyData.eqv (.str x) (.str y) := by
  rw [PyData.eqv]
  exact dec_str
theorem sim_eq {K : PySem.W.Frag} : Sim2 K (rEqX K) aEq := by
  intro F ro H m a b v w Q Qa c ia ib h p
  unfold aEq at h
  split at h
  · rename_i d e ed ee
    obtain ⟨h1, h2, q⟩ := h
    rcases shE_cases h1 h2 with ⟨g1, g2⟩ | ⟨x, y, rfl, rfl⟩
    · exact .inl ⟨d, e, (asD_is c ia ed).dp (SeqAt.canLay_of_shaped g1), (asD_is c ib ee).dp (SeqAt.canLay_of_shaped g2), g1, g2, p.god c (.bl _) q⟩
    · have z1 := asD_is c ia ed
      have z2 := asD_is c ib ee
      cases z1
      cases z2
      refine .inr ⟨rfl, ?_⟩
      rw [eqv_ss]
      exact p.god c (.bl _) q
  · exact h.elim
theorem sim_ne {K : PySem.W.Frag} : Sim2 K (rNeX K) aNe := by
  intro F ro H m a b v w Q Qa c ia ib h p
  unfold aNe at h
  split at h
  · rename_i d e ed ee
    obtain ⟨h1, h2, q⟩ := h
    rcases shE_cases h1 h2 with ⟨g1, g2⟩ | ⟨x, y, rfl, rfl⟩
    · exact .inl ⟨d, e, (asD_is c ia ed).dp (SeqAt.canLay_of_shaped g1), (asD_is c ib ee).dp (SeqAt.canLay_of_shaped g2), g1, g2, p.god c (.bl _) q⟩
    · have z1 := asD_is c ia ed
      have z2 := asD_is c ib ee
      cases z1
      cases z2
      refine .inr ⟨rfl, ?_⟩
      rw [eqv_ss]
      exact p.god c (.bl _) q
  · exact h.elim
/-- x is None, x is not None -/
def isNone : U → Bool
  | .v .none => true
  | _ => false
def dIsN (t : AE) : AE := fun E m Q => t E m fun u m1 => Q (.v (.bool (isNone u))) m1
def dNotN (t : AE) : AE := fun E m Q => t E m fun u m1 => Q (.v (.bool (!isNone u))) m1
theorem isNone_of {K : PySem.W.Frag} {F : Hp} {ro : List Addr} {u : U} {v : V} (h : IsU K F ro u v) : decide (v = V.non) = isNone u := by
  cases u with
  | v d => cases h <;> rfl
  | r k => obtain ⟨a, _, rfl⟩ := h; rfl
  | s k => obtain ⟨a, rfl, _⟩ := h; rfl
  | o t => obtain ⟨a, rfl⟩ := IsO.ref h; rfl
theorem de_isN {e : Expr} {f : AE} {j : Nat} {pos pos' : Pos} (h : DE X e f) : DE X (.Compare e [.Is] [.Constant .none j pos'] pos) (dIsN f) := pe_imp (pe_cmp (pc_isN h) rfl) fun σ H Q ⟨F, ro, E, m, Qa, cm, ce, hf, p⟩ =>
  ⟨F, ro, E, m, _, cm, ce, hf, fun F1 ro1 H1 u v m1 g1 c1 i1 h1 => by
    show Q (.bl (decide (v = .non))) H1
    rw [isNone_of i1]
    exact (p.at g1).god c1 (.bl _) h1⟩
theorem de_notN {e : Expr} {f : AE} {j : Nat} {pos pos' : Pos} (h : DE X e f) : DE X (.Compare e [.IsNot] [.Constant .none j pos'] pos) (dNotN f) := pe_imp (pe_cmp (pc_notN h) rfl) fun σ H Q ⟨F, ro, E, m, Qa, cm, ce, hf, p⟩ =>
  ⟨F, ro, E, m, _, cm, ce, hf, fun F1 ro1 H1 u v m1 g1 c1 i1 h1 => by
    show Q (.bl (!decide (v = .non))) H1
    rw [isNone_of i1]
    exact (p.at g1).god c1 (.bl _) h1⟩
theorem dt_isN {e : Expr} {f : AE} {j : Nat} {pos pos' : Pos} (h : DE X e f) : DT X (.Compare e [.Is] [.Constant .none j pos'] pos) (dB (dIsN f)) := pt_imp (pt_cmp (pc_isN h) rfl) fun σ H Q ⟨F, ro, E, m, Qa, cm, ce, hf, p⟩ =>
  ⟨F, ro, E, m, _, cm, ce, hf, fun F1 ro1 H1 u v m1 g1 c1 i1 h1 => by
    show ∃ c, V.bl (decide (v = .non)) = .bl c ∧ Q c H1
    refine ⟨_, rfl, ?_⟩
    rw [isNone_of i1]
    exact p F1 ro1 H1 _ m1 g1 c1 h1⟩
theorem dt_notN {e : Expr} {f : AE} {j : Nat} {pos pos' : Pos} (h : DE X e f) : DT X (.Compare e [.IsNot] [.Constant .none j pos'] pos) (dB (dNotN f)) := pt_imp (pt_cmp (pc_notN h) rfl) fun σ H Q ⟨F, ro, E, m, Qa, cm, ce, hf, p⟩ =>
  ⟨F, ro, E, m, _, cm, ce, hf, fun F1 ro1 H1 u v m1 g1 c1 i1 h1 => by
    show ∃ c, V.bl (!decide (v = .non)) = .bl c ∧ Q c H1
    refine ⟨_, rfl, ?_⟩
    rw [isNone_of i1]
    exact p F1 ro1 H1 _ m1 g1 c1 h1⟩
/-- x is True, where x is a bool -/
def aBB (f : Bool → Bool → Bool) : R2A := fun a b m Q => match a, b with
  | .v (.bool i), .v (.bool j) => Q (.v (.bool (f i j))) m
  | _, _ => False
theorem sim_isB {K : PySem.W.Frag} : Sim2 K rIsB (aBB fun a b => decide (a = b)) := by
  intro F ro H m a b v w Q Qa c ia ib h p
  unfold aBB at h
  split at h
  · cases ia; cases ib; exact ⟨_, _, rfl, rfl, p.god c (.bl _) h⟩
  · exact h.elim
theorem sim_notB {K : PySem.W.Frag} : Sim2 K rNotB (aBB fun a b => !decide (a = b)) := by
  intro F ro H m a b v w Q Qa c ia ib h p
  unfold aBB at h
  split at h
  · cases ia; cases ib; exact ⟨_, _, rfl, rfl, p.god c (.bl _) h⟩
  · exact h.elim
/-- x in xs, flat things -/
def flatD : PyData → Bool
  | .none => true
  | .bool _ => true
  | .int _ => true
  | .str _ => true
  | _ => false
def inD (x : PyData) (l : List PyData) : Bool := l.any fun y => PyData.eqv y x
def asS (m : Sto) (u : U) : Option (List PyData) := match u with
  | .v (.tuple l) => some l
  | u => asQ m u
def aIn (neg : Bool) : R2A := fun a b m Q => match a, asS m b with
  | .v x, some l => flatD x = true ∧ l.all flatD = true ∧ Q (.v (.bool (if neg then !inD x l else inD x l))) m
  | _, _ => False
theorem flat_of {K : PySem.W.Frag} {F : Hp} {v : V} {d : PyData} (h : IsD K F v d) (f : flatD d = true) : flatV v = true := by
  cases h <;> first | rfl | (simp [flatD] at f)
theorem eqv_flat {K : PySem.W.Frag} {F : Hp} {v w : V} {d e : PyData} (h : IsD K F v d) (h' : IsD K F w e) (f : flatD d = true) (f' : flatD e = true) : eqV v w = PyData.eqv d e := by
  cases h <;> cases h' <;> first | rfl | exact absurd f (by simp [flatD]) | exact absurd f' (by simp [flatD]) | (simp [eqV, PyData.eqv])
theorem flat_all {K : PySem.W.Frag} {F : Hp} : ∀ {vs : List V} {ds : List PyData}, IsDs K F vs ds → ds.all flatD = true → vs.all flatV = true
  | _, _, .nil, _ => rfl
  | _, _, .cons h t, f => by
    simp only [List.all_cons, Bool.and_eq_true] at f ⊢
    exact ⟨flat_of h f.1, flat_all t f.2⟩
theorem inV_of {K : PySem.W.Frag} {F : Hp} {v : V} {d : PyData} (hv : IsD K F v d) (fv : flatD d = true) : ∀ {vs : List V} {ds : List PyData}, IsDs K F vs ds → ds.all flatD = true → inV v vs = inD d ds
  | _, _, .nil, _ => rfl
  | _, _, .cons h t, f => by
    simp only [List.all_cons, Bool.and_eq_true] at f
    have ih := inV_of hv fv t f.2
    unfold inV inD at ih ⊢
    rw [List.any_cons, List.any_cons, ih, eqv_flat h hv f.1 fv]
theorem asS_sq {K : PySem.W.Frag} {F H : Hp} {ro : List Addr} {m : Sto} (c : ConM K F ro H m) {u : U} {v : V} (h : IsU K F ro u v) {l : List PyData} (e : asS m u = some l) : ∃ a xs, v = .ref a ∧ (SqL K H a xs ∨ SqT K H a xs) ∧ IsDs K F xs l := by
  unfold asS at e
  split at e
  · cases e
    cases h with
    | tup h1 h2 => exact ⟨_, _, rfl, .inr (.inl (rd_mono c.ex h1)), h2⟩
  · obtain ⟨a, xs, h1, h2, h3⟩ := asQ_sq c h e
    exact ⟨a, xs, h1, .inl h2, h3⟩
theorem sim_in {K : PySem.W.Frag} (neg : Bool) : Sim2 K (rIn K neg) (aIn neg) := by
  intro F ro H m a b v w Q Qa c ia ib h p
  unfold aIn at h
  split at h
  · rename_i x l el
    obtain ⟨a, xs, rfl, hs, hd⟩ := asS_sq c ib el
    refine ⟨a, xs, rfl, hs, flat_of ia h.1, flat_all hd h.2.1, ?_⟩
    rw [inV_of ia h.1 hd h.2.1]
    exact p.god c (.bl _) h.2.2
  · exact h.elim
end
end Z
/-! Z5: items, slices, built-ins, methods, walks. -/
namespace Z
open PySem PySem.Spec PyProof.Rows L2

/-! ### items and slices -/
def aIx : R2A := fun a b m Q => match b with
  | .v (.int i) => (match asS m a with
    | some l => (match atI l i with
      | some d => Q (.v d) m
      | none => False)
    | none => (match a with
      | .v (.str z) => z.length ≤ sizeLine ∧ (match atI z.cps.toList i with
        | some c => Q (.v (.str ⟨#[c]⟩)) m
        | none => False)
      | _ => False))
  | _ => False
theorem atI_is {K : PySem.W.Frag} {F : Hp} {vs : List V} {ds : List PyData} (h : IsDs K F vs ds) {i : Int} {d : PyData} (e : atI ds i = some d) : ∃ v, atI vs i = some v ∧ IsD K F v d := by
  unfold atI at e ⊢
  rw [h.length]
  cases q : ixN ds.length i with
  | none => rw [q] at e; cases e
  | some j =>
    rw [q] at e
    exact h.get e
theorem sim_ix {K : PySem.W.Frag} : Sim2 K (rIx K) aIx := by
  intro F ro H m a b v w Q Qa c ia ib h p
  unfold aIx at h
  split at h
  · rename_i i
    cases ib
    split at h
    · rename_i l el
      obtain ⟨x, xs, rfl, hs, hd⟩ := asS_sq c ia el
      split at h
      · rename_i d ed
        obtain ⟨v, e1, e2⟩ := atI_is hd ed
        rcases hs with hs | hs
        · exact .inl ⟨_, _, _, _, rfl, rfl, hs, e1, p.god c e2 h⟩
        · exact .inr (.inl ⟨_, _, _, _, rfl, rfl, hs, e1, p.god c e2 h⟩)
      · exact h.elim
    · split at h
      · obtain ⟨hz, h⟩ := h
        split at h
        · rename_i ed
          cases ia
          exact .inr (.inr ⟨_, _, _, rfl, rfl, hz, ed, p.god c (.str _) h⟩)
        · exact h.elim
      · exact h.elim
  · exact h.elim
section
variable {X : Cx}
theorem de_ix {a b : Expr} {fa fb : AE} {pos : Pos} (ha : DE X a fa) (hb : DE X b fb) (hs : PlainIx b := by intro _ _; rfl) : DE X (.Subscript a b pos) (dOp aIx fa fb) :=
  pe_imp (pe_ix ix_seq ha hb hs) (tOp_sim sim_ix)
/-- the bounds of a slice -/
abbrev AO := En → Sto → (Option Int → Sto → Prop) → Prop
def cO (K : PySem.W.Frag) (f : AO) : TO := fun σ H Q => ∃ F ro E m Qa, ConM K F ro H m ∧ ConE K F ro σ E ∧ f E m Qa ∧ ∀ (F' : Hp) (ro' : List Addr) (H' : Hp) (o : Option Int) (m' : Sto), Gro F ro H F' ro' H' → ConM K F' ro' H' m' → Qa o m' → Q o H'
abbrev DO (X : Cx) (e : Option Expr) (f : AO) : Prop := PO X e (cO X.K f)
theorem po_imp {e : Option Expr} {t t' : TO} (h : PO X e t) (i : ∀ σ H Q, t' σ H Q → t σ H Q) : PO X e t' := ⟨fun pins s σ H Q I hw => h.run pins s σ H Q I (i σ H Q hw)⟩
def dNoPart : AO := fun _ m Q => Q none m
def dPart (t : AE) : AO := fun E m Q => t E m fun u m1 => match u with
  | .v (.int i) => Q (some i) m1
  | _ => False
theorem do_none : DO X none dNoPart := po_imp po_none fun σ H Q ⟨F, ro, E, m, Qa, cm, ce, hf, p⟩ => p F ro H none m Gro.refl cm hf
theorem do_some {e : Expr} {f : AE} (h : DE X e f) : DO X (some e) (dPart f) := po_imp (po_some h) fun σ H Q ⟨F, ro, E, m, Qa, cm, ce, hf, p⟩ =>
  ⟨F, ro, E, m, _, cm, ce, hf, fun F1 ro1 H1 u v m1 g1 c1 i1 h1 => by
    revert h1
    split
    · intro h1
      cases i1
      exact ⟨_, rfl, p F1 ro1 H1 _ m1 g1 c1 h1⟩
    · exact fun h => h.elim⟩
def cutD (xs : List PyData) (lo hi : Option Int) : List PyData := (xs.drop (HT.sIx xs.length 0 lo)).take (HT.sIx xs.length xs.length hi - HT.sIx xs.length 0 lo)
theorem cut_is {K : PySem.W.Frag} {F : Hp} {vs : List V} {ds : List PyData} (h : IsDs K F vs ds) (lo hi : Option Int) : IsDs K F (cutV vs lo hi) (cutD ds lo hi) := by
  unfold cutV cutD
  rw [h.length]
  exact (h.drop _).take _
def dSl (mu : Bool) (ta : AE) (tl th : AO) : AE := fun E m Q => ta E m fun u m1 => tl E m1 fun lo m2 => th E m2 fun hi m3 => match asQ m3 u with
  | some l => nw mu (cutD l lo hi) m3 Q
  | none => False
theorem de_sl (mu : Bool) {e : Expr} {lo hi : Option Expr} {f : AE} {fl fh : AO} {p2 pos : Pos} (he : DE X e f) (hl : DO X lo fl) (hu : DO X hi fh) : DE X (.Subscript e (.Slice lo hi none p2) pos) (dSl mu f fl fh) :=
  pe_imp (pe_slice sl_list he hl hu) fun σ H Q ⟨F, ro, E, m, Qa, cm, ce, hf, p⟩ =>
    ⟨F, ro, E, m, _, cm, ce, hf, fun F1 ro1 H1 u v m1 g1 c1 i1 h1 => ⟨F1, ro1, E, m1, _, c1, ce.mono g1, h1, fun F2 ro2 H2 lo m2 g2 c2 h2 => ⟨F2, ro2, E, m2, _, c2, ce.mono (g1.trans g2), h2, fun F3 ro3 H3 hi m3 g3 c3 h3 => by
      revert h3
      split
      · rename_i l el
        intro h3
        obtain ⟨a, xs, rfl, r, d⟩ := asQ_sq c3 (i1.mono (g2.trans g3)) el
        exact ⟨a, xs, rfl, r, (p.at (g1.trans (g2.trans g3))).nw c3 mu (cut_is d lo hi) h3⟩
      · exact fun h => h.elim⟩⟩⟩
/-- xs[::-1] -/
def dRev (mu : Bool) (ta : AE) : AE := fun E m Q => ta E m fun u m1 => match asL m1 u with
  | some l => nw mu l.reverse m1 Q
  | none => False
theorem de_rev (mu : Bool) {e : Expr} {f : AE} {k : Nat} {p1 p2 p3 pos : Pos} (he : DE X e f) : DE X (.Subscript e (.Slice none none (some (.UnaryOp .USub (.Constant (.int 1) k p1) p2)) p3) pos) (dRev mu f) :=
  pe_imp (pe_revL he) fun σ H Q ⟨F, ro, E, m, Qa, cm, ce, hf, p⟩ =>
    ⟨F, ro, E, m, _, cm, ce, hf, fun F1 ro1 H1 u v m1 g1 c1 i1 h1 => by
      revert h1
      split
      · rename_i l el
        intro h1
        obtain ⟨a, xs, rfl, r, d⟩ := asL_sq c1 i1 el
        exact ⟨a, xs, rfl, Or.inl r, (p.at g1).nw c1 mu d.reverse h1⟩
      · exact fun h => h.elim⟩

/-! ### built-ins -/
def intsOf : List PyData → Option (List Int)
  | [] => some []
  | .int i :: l => (intsOf l).map (i :: ·)
  | _ :: _ => none
def boolsOf : List PyData → Option (List Bool)
  | [] => some []
  | .bool i :: l => (boolsOf l).map (i :: ·)
  | _ :: _ => none
@[simp] theorem intsOf_map : ∀ l : List Int, intsOf (l.map .int) = some l
  | [] => rfl
  | i :: l => by simp [intsOf, intsOf_map l]
@[simp] theorem boolsOf_map : ∀ l : List Bool, boolsOf (l.map .bool) = some l
  | [] => rfl
  | i :: l => by simp [boolsOf, boolsOf_map l]
theorem intsOf_eq : ∀ {l : List PyData} {ns : List Int}, intsOf l = some ns → l = ns.map .int
  | [], _, h => by cases h; rfl
  | d :: l, ns, h => by
    cases d <;> simp [intsOf] at h
    obtain ⟨r, h1, h2⟩ := h
    subst h2
    rw [intsOf_eq h1] <;> rfl
theorem boolsOf_eq : ∀ {l : List PyData} {ns : List Bool}, boolsOf l = some ns → l = ns.map .bool
  | [], _, h => by cases h; rfl
  | d :: l, ns, h => by
    cases d <;> simp [boolsOf] at h
    obtain ⟨r, h1, h2⟩ := h
    subst h2
    rw [boolsOf_eq h1] <;> rfl
/-- the ints, the bools of a list -/
def asI (m : Sto) (u : U) : Option (List Int) := (asL m u).bind intsOf
def asBs (m : Sto) (u : U) : Option (List Bool) := (asL m u).bind boolsOf
theorem asI_sq {K : PySem.W.Frag} {F H : Hp} {ro : List Addr} {m : Sto} (c : ConM K F ro H m) {u : U} {v : V} (h : IsU K F ro u v) {l : List Int} (e : asI m u = some l) : ∃ a, v = .ref a ∧ SqL K H a (l.map V.int) := by
  obtain ⟨x, e1, e2⟩ := Option.bind_eq_some_iff.mp e
  obtain ⟨a, xs, h1, h2, h3⟩ := asL_sq c h e1
  rw [intsOf_eq e2] at h3
  rw [h3.ints] at h2
  exact ⟨a, h1, .inl h2⟩
theorem asBs_sq {K : PySem.W.Frag} {F H : Hp} {ro : List Addr} {m : Sto} (c : ConM K F ro H m) {u : U} {v : V} (h : IsU K F ro u v) {l : List Bool} (e : asBs m u = some l) : ∃ a, v = .ref a ∧ SqL K H a (l.map V.bl) := by
  obtain ⟨x, e1, e2⟩ := Option.bind_eq_some_iff.mp e
  obtain ⟨a, xs, h1, h2, h3⟩ := asL_sq c h e1
  rw [boolsOf_eq e2] at h3
  rw [h3.bools] at h2
  exact ⟨a, h1, .inl h2⟩
abbrev R1A := List U → Sto → QA → Prop
theorem iu1 {K : PySem.W.Frag} {F : Hp} {ro : List Addr} {u : U} {vs : List V} (h : IsUs K F ro [u] vs) : ∃ v, vs = [v] ∧ IsU K F ro u v := by
  cases h with
  | cons a b => cases b; exact ⟨_, rfl, a⟩
theorem iu2 {K : PySem.W.Frag} {F : Hp} {ro : List Addr} {u w : U} {vs : List V} (h : IsUs K F ro [u, w] vs) : ∃ v x, vs = [v, x] ∧ IsU K F ro u v ∧ IsU K F ro w x := by
  cases h with
  | cons a b =>
    cases b with
    | cons a' b' => cases b'; exact ⟨_, _, rfl, a, a'⟩
/-- len -/
def aLen : R1A := fun us m Q => match us with
  | [u] => (match asS m u with
    | some l => Q (.v (.int l.length)) m
    | none => (match u with
      | .v (.str z) => z.length ≤ sizeLine ∧ Q (.v (.int z.length)) m
      | _ => False))
  | _ => False
def rLen (K : PySem.W.Frag) : List V → Hp → VK → Prop := fun xs H Q => (∃ p ys, xs = [.ref p] ∧ (SqL K H p ys ∨ SqT K H p ys) ∧ Q (.int ys.length) H) ∨ ∃ z, xs = [.str z] ∧ z.length ≤ sizeLine ∧ Q (.int z.length) H
theorem call_lenA : CallR X (.builtin "len") (rLen X.K) := call_len_seq.or call_len_str
theorem sim_len {K : PySem.W.Frag} : SimC K (rLen K) aLen := by
  intro F ro H m us vs Q Qa c iu h p
  unfold aLen at h
  split at h
  · obtain ⟨v, rfl, i1⟩ := iu1 iu
    split at h
    · rename_i l el
      obtain ⟨a, xs, rfl, hs, hd⟩ := asS_sq c i1 el
      refine .inl ⟨a, xs, rfl, hs, ?_⟩
      rw [hd.length]
      exact p.god c (.int _) h
    · split at h
      · cases i1
        exact .inr ⟨_, rfl, h.1, p.god c (.int _) h.2⟩
      · exact h.elim
  · exact h.elim
/-- max, min: of two ints, of a list of ints -/
def aMax : R1A := fun us m Q => match us with
  | [.v (.int i), .v (.int j)] => Q (.v (.int (if j > i then j else i))) m
  | [u] => (match asI m u with
    | some l => 0 < l.length ∧ ∀ x, x ∈ l → (∀ y, y ∈ l → y ≤ x) → Q (.v (.int x)) m
    | none => False)
  | _ => False
def aMin : R1A := fun us m Q => match us with
  | [.v (.int i), .v (.int j)] => Q (.v (.int (if j < i then j else i))) m
  | [u] => (match asI m u with
    | some l => 0 < l.length ∧ ∀ x, x ∈ l → (∀ y, y ∈ l → x ≤ y) → Q (.v (.int x)) m
    | none => False)
  | _ => False
def rMaxA (K : PySem.W.Frag) : List V → Hp → VK → Prop := fun xs H Q => (∃ i j, xs = [.int i, .int j] ∧ Q (.int (if j > i then j else i)) H) ∨ rMax K xs H Q
def rMinA (K : PySem.W.Frag) : List V → Hp → VK → Prop := fun xs H Q => (∃ i j, xs = [.int i, .int j] ∧ Q (.int (if j < i then j else i)) H) ∨ rMin K xs H Q
theorem call_maxA (hc : X.calm = true) : CallR X (.builtin "max") (rMaxA X.K) := (call_max2 hc).or (cr_max hc)
theorem call_minA (hc : X.calm = true) : CallR X (.builtin "min") (rMinA X.K) := (call_min2 hc).or (cr_min hc)
theorem sim_max {K : PySem.W.Frag} : SimC K (rMaxA K) aMax := by
  intro F ro H m us vs Q Qa c iu h p
  unfold aMax at h
  split at h
  · obtain ⟨v, w, rfl, i1, i2⟩ := iu2 iu
    cases i1; cases i2
    exact .inl ⟨_, _, rfl, p.god c (.int _) h⟩
  · obtain ⟨v, rfl, i1⟩ := iu1 iu
    split at h
    · rename_i l el
      obtain ⟨a, rfl, hs⟩ := asI_sq c i1 el
      exact .inr ⟨a, l, rfl, hs, h.1, fun x h1 h2 => p.god c (.int _) (h.2 x h1 h2)⟩
    · exact h.elim
  · exact h.elim
theorem sim_min {K : PySem.W.Frag} : SimC K (rMinA K) aMin := by
  intro F ro H m us vs Q Qa c iu h p
  unfold aMin at h
  split at h
  · obtain ⟨v, w, rfl, i1, i2⟩ := iu2 iu
    cases i1; cases i2
    exact .inl ⟨_, _, rfl, p.god c (.int _) h⟩
  · obtain ⟨v, rfl, i1⟩ := iu1 iu
    split at h
    · rename_i l el
      obtain ⟨a, rfl, hs⟩ := asI_sq c i1 el
      exact .inr ⟨a, l, rfl, hs, h.1, fun x h1 h2 => p.god c (.int _) (h.2 x h1 h2)⟩
    · exact h.elim
  · exact h.elim
def aAbs : R1A := fun us m Q => match us with
  | [.v (.int i)] => Q (.v (.int (if i < 0 then -i else i))) m
  | _ => False
theorem sim_abs {K : PySem.W.Frag} : SimC K (fun xs H Q => ∃ i, xs = [.int i] ∧ Q (.int (if i < 0 then -i else i)) H) aAbs := by
  intro F ro H m us vs Q Qa c iu h p
  unfold aAbs at h
  split at h
  · obtain ⟨v, rfl, i1⟩ := iu1 iu
    cases i1
    exact ⟨_, rfl, p.god c (.int _) h⟩
  · exact h.elim
def aSum : R1A := fun us m Q => match us with
  | [u] => (match asI m u with
    | some l => Q (.v (.int l.sum)) m
    | none => False)
  | _ => False
theorem sim_sum {K : PySem.W.Frag} : SimC K (rSum K) aSum := by
  intro F ro H m us vs Q Qa c iu h p
  unfold aSum at h
  split at h
  · obtain ⟨v, rfl, i1⟩ := iu1 iu
    split at h
    · rename_i l el
      obtain ⟨a, rfl, hs⟩ := asI_sq c i1 el
      exact ⟨a, l, rfl, hs, p.god c (.int _) h⟩
    · exact h.elim
  · exact h.elim
def aAll : R1A := fun us m Q => match us with
  | [u] => (match asBs m u with
    | some l => Q (.v (.bool (l.all id))) m
    | none => False)
  | _ => False
def aAny : R1A := fun us m Q => match us with
  | [u] => (match asBs m u with
    | some l => Q (.v (.bool (l.any id))) m
    | none => False)
  | _ => False
theorem sim_all {K : PySem.W.Frag} : SimC K (rAll K) aAll := by
  intro F ro H m us vs Q Qa c iu h p
  unfold aAll at h
  split at h
  · obtain ⟨v, rfl, i1⟩ := iu1 iu
    split at h
    · rename_i l el
      obtain ⟨a, rfl, hs⟩ := asBs_sq c i1 el
      exact ⟨a, l, rfl, hs, p.god c (.bl _) h⟩
    · exact h.elim
  · exact h.elim
theorem sim_any {K : PySem.W.Frag} : SimC K (rAny K) aAny := by
  intro F ro H m us vs Q Qa c iu h p
  unfold aAny at h
  split at h
  · obtain ⟨v, rfl, i1⟩ := iu1 iu
    split at h
    · rename_i l el
      obtain ⟨a, rfl, hs⟩ := asBs_sq c i1 el
      exact ⟨a, l, rfl, hs, p.god c (.bl _) h⟩
    · exact h.elim
  · exact h.elim
/-- list(x) -/
def aList (mu : Bool) : R1A := fun us m Q => match us with
  | [u] => (match asS m u with
    | some l => nw mu l m Q
    | none => False)
  | _ => False
theorem sim_list {K : PySem.W.Frag} (mu : Bool) : SimC K (fun xs H Q => ∃ p ys, xs = [.ref p] ∧ (SqL K H p ys ∨ SqT K H p ys) ∧ ∀ l, H l = none → Q (.ref l) (upd H l (.lst ys))) (aList mu) := by
  intro F ro H m us vs Q Qa c iu h p
  unfold aList at h
  split at h
  · obtain ⟨v, rfl, i1⟩ := iu1 iu
    split at h
    · rename_i l el
      obtain ⟨a, xs, rfl, hs, hd⟩ := asS_sq c i1 el
      exact ⟨a, xs, rfl, hs, p.nw c mu (IsDs.mono c.ex (IsDs.mono (Same.refl _) hd) |> fun _ => hd) h⟩
    · exact h.elim
  · exact h.elim
/-- tuple(x) -/
def aTuple : R1A := fun us m Q => match us with
  | [u] => (match asS m u with
    | some l => Q (.v (.tuple l)) m
    | none => False)
  | _ => False
theorem sim_tuple {K : PySem.W.Frag} : SimC K (fun xs H Q => ∃ p ys, xs = [.ref p] ∧ ((SqL K H p ys ∧ ∀ l, H l = none → Q (.ref l) (upd H l (.tup ys))) ∨ (SqT K H p ys ∧ Q (.ref p) H))) aTuple := by
  intro F ro H m us vs Q Qa c iu h p
  unfold aTuple at h
  split at h
  · obtain ⟨v, rfl, i1⟩ := iu1 iu
    split at h
    · rename_i l el
      unfold asS at el
      split at el
      · cases el
        cases i1 with
        | tup h1 h2 => exact ⟨_, _, rfl, .inr ⟨.inl (rd_mono c.ex h1), p.god c (.tup h1 h2) h⟩⟩
      · obtain ⟨a, xs, rfl, h2, h3⟩ := asQ_sq c i1 el
        exact ⟨a, xs, rfl, .inl ⟨h2, p.newT c h3 h⟩⟩
    · exact h.elim
  · exact h.elim
/-- int(x): an int, a bool -/
def aInt : R1A := fun us m Q => match us with
  | [.v (.int i)] => Q (.v (.int i)) m
  | [.v (.bool b)] => Q (.v (.int (if b then 1 else 0))) m
  | _ => False
theorem sim_int {K : PySem.W.Frag} : SimC K (fun xs H Q => (∃ i, xs = [.int i] ∧ Q (.int i) H) ∨ ∃ k, xs = [.bl k] ∧ Q (.int (if k then 1 else 0)) H) aInt := by
  intro F ro H m us vs Q Qa c iu h p
  unfold aInt at h
  split at h
  · obtain ⟨v, rfl, i1⟩ := iu1 iu
    cases i1
    exact .inl ⟨_, rfl, p.god c (.int _) h⟩
  · obtain ⟨v, rfl, i1⟩ := iu1 iu
    cases i1
    exact .inr ⟨_, rfl, p.god c (.int _) h⟩
  · exact h.elim
/-- sorted, fewer than 64 ints: the sorted list -/
def aSorted (mu : Bool) : R1A := fun us m Q => match us with
  | [u] => (match asI m u with
    | some l => l.length < 64 ∧ ∀ l' : List Int, l'.Perm l → l'.Pairwise (· ≤ ·) → nw mu (l'.map .int) m Q
    | none => False)
  | _ => False
theorem sim_sorted {K : PySem.W.Frag} (mu : Bool) : SimC K (rSorted K) (aSorted mu) := by
  intro F ro H m us vs Q Qa c iu h p
  unfold aSorted at h
  split at h
  · obtain ⟨v, rfl, i1⟩ := iu1 iu
    split at h
    · rename_i l el
      obtain ⟨a, rfl, hs⟩ := asI_sq c i1 el
      exact ⟨a, l, rfl, hs, h.1, fun l' b h1 h2 hb => p.nw c mu (IsDs.of_ints l') (h.2 l' h1 h2) b hb⟩
    · exact h.elim
  · exact h.elim

/-! ### repr -/
def noDict : PyData → Bool := fun d => !d.hasDict
def aRepr : R1A := fun us m Q => match us with
  | [u] => (match asD m u with
    | some d => d.canLay0 = true ∧ d.showable = true ∧ d.depth ≤ 64 ∧ d.shown.length ≤ sizeLine ∧ Q (.v (.str d.shown)) m
    | none => False)
  | _ => False
def rRepr (K : PySem.W.Frag) : List V → Hp → VK → Prop := fun xs H Q => ∃ v d, xs = [v] ∧ Dp K H v d ∧ d.showable = true ∧ d.hasDict = false ∧ d.depth ≤ 64 ∧ d.shown.length ≤ sizeLine ∧ Q (.str d.shown) H
theorem call_repr (hr : X.A.units + 66 < cLine) (hg : X.A.guards = some []) : CallR X (.builtin "repr") (rRepr X.K) := by
  intro pins s σ H xs us Q I r h
  obtain ⟨v, d, rfl, hd, h1, h2, h3, h4, q⟩ := h
  obtain ⟨u, rfl, ru⟩ := vals1 r
  obtain ⟨as, rd⟩ := Dp.reads I d v u hd ru
  have go : ∀ a, u = .ref a → wpAny (model X.prog X.w) X.A (call (.builtin "repr") [u]) (EP X pins σ Q) X.xe s := fun a e => by
    subst e
    refine repr_of_reads' rd h1 (PyData.noDict_hsm h2) hg (by omega) (fun _ _ e => e) (fun h' u' tk hk => ?_) h4
    exact ⟨.str _, H, I.kept (t' := tk) hk, ⟨_, rfl⟩, q⟩
  cases hd with
  | non => cases ru; exact PySem.P.repr_of_none ⟨.str _, H, I.tok _, ⟨_, rfl⟩, q⟩
  | bl b => cases ru; exact PySem.P.repr_of_bool ⟨.str _, H, I.tok _, ⟨_, rfl⟩, q⟩
  | int i =>
    obtain ⟨t, rfl⟩ := ru
    exact PySem.P.repr_of_int (by simpa [PyData.showable] using h1) ⟨.str _, H, I.tok _, ⟨_, rfl⟩, q⟩
  | str x =>
    obtain ⟨t, rfl⟩ := ru
    exact PySem.P.repr_of_str ⟨.str _, H, I.tok _, ⟨_, rfl⟩, q⟩ h4
  | lst _ _ => exact go _ ru
  | tup _ _ => exact go _ ru
mutual
theorem no_dict1 : ∀ {d : PyData}, d.canLay0 = true → d.hasDict = false
  | .none, _ => rfl
  | .bool _, _ => rfl
  | .int _, _ => rfl
  | .str _, _ => rfl
  | .list l, h => by
    simp only [PyData.hasDict]
    exact no_dictAll (by simpa [PyData.canLay0] using h)
  | .tuple l, h => by
    simp only [PyData.hasDict]
    exact no_dictAll (by simpa [PyData.canLay0] using h)
  | .dict _, h => by simp [PyData.canLay0] at h
theorem no_dictAll : ∀ {d : List PyData}, PyData.canLayAll0 d = true → PyData.hasDictAll d = false
  | [], _ => rfl
  | d :: ds, h => by
    simp only [PyData.canLayAll0, Bool.and_eq_true] at h
    simp only [PyData.hasDictAll, no_dict1 h.1, no_dictAll h.2, Bool.or_self]
end
theorem no_dict : ∀ {d : PyData}, d.canLay0 = true → d.hasDict = false := by
  exact no_dict1
theorem sim_repr {K : PySem.W.Frag} : SimC K (rRepr K) aRepr := by
  intro F ro H m us vs Q Qa c iu h p
  unfold aRepr at h
  split at h
  · obtain ⟨v, rfl, i1⟩ := iu1 iu
    split at h
    · rename_i d ed
      exact ⟨v, d, rfl, (asD_is c i1 ed).dp h.1, h.2.1, no_dict h.1, h.2.2.1, h.2.2.2.1, p.god c (.str _) h.2.2.2.2⟩
    · exact h.elim
  · exact h.elim

/-! ### isinstance, one built-in class -/
def kindD : PyData → String
  | .none => "NoneType"
  | .bool _ => "bool"
  | .int _ => "int"
  | .str _ => "str"
  | .list _ => "list"
  | .tuple _ => "tuple"
  | .dict _ => "dict"
def isK (a b : String) : Bool := a == b || (a == "bool" && b == "int")
def dIsi (T : String) (t : AE) : AE := fun E m Q => t E m fun u m1 => match asD m1 u with
  | some d => Q (.v (.bool (isK (kindD d) T))) m1
  | none => False
theorem kitB_is : ∀ a ∈ ["NoneType", "bool", "int", "str", "list", "tuple", "dict"], ∀ b ∈ ["bool", "int", "str", "list", "tuple", "dict"], kitB a b = some (isK a b) := by decide +kernel
theorem kind_mem (d : PyData) : kindD d ∈ ["NoneType", "bool", "int", "str", "list", "tuple", "dict"] := by cases d <;> simp [kindD]
theorem tyX_of {K : PySem.W.Frag} {H : Hp} {v : V} {d : PyData} (h : IsD K H v d) : TyX K H v (.type (kindD d)) := by
  cases h with
  | non => exact .base .non
  | bl b => exact .base (.bl b)
  | int i => exact .base (.int i)
  | str x => exact .base (.str x)
  | lst h1 _ => exact .base (.lst h1)
  | tup h1 _ =>
    rcases h1 with h1 | ⟨o, h1⟩
    · exact .base (.tup h1)
    · exact .fTuple h1
  | dct h1 _ => exact .base (.dK h1)
theorem de_isi {e : Expr} {f : AE} {T : String} {x : Str} {p1 p2 pos : Pos} (hT : T ∈ ["bool", "int", "str", "list", "tuple", "dict"]) (he : DE X e f) (hm : X.mg "isinstance" = none) (hmT : X.mg x = none) (hv : bootBuiltins x = some (.type T)) (hg : Gl X "isinstance" := by rfl) (hgT : Gl X x := by rfl)
    (hn : x ≠ "__name__" := by decide) (hdb : (x == ("__debug__" : Str)) = false := by decide) (hs : starEach [e, .Name x p2] X.env = (false, eval e X.env) :: starEach [.Name x p2] X.env := by rfl) (hs2 : starEach [.Name x p2] X.env = (false, eval (.Name x p2) X.env) :: starEach [] X.env := by rfl)
    (hpl : (backTo pos (starEach [.Name x p2] X.env)).any (·.1) = false := by rfl) : DE X (.Call (.Name "isinstance" p1) [e, .Name x p2] [] pos) (dIsi T f) :=
  pe_imp (pe_callB call_isi hg hm (by decide +kernel) (pa_cons he (pa_cons (pe_bltn (v := .ty T) hgT hmT hv rfl hn hdb) pa_nil hs2) hs) (he := hs) (hpl := hpl)) fun σ H Q ⟨F, ro, E, m, Qa, cm, ce, hf, p⟩ =>
    ⟨F, ro, E, m, _, cm, ce, hf, fun F1 ro1 H1 u v m1 g1 c1 i1 h1 => by
      revert h1
      split
      · rename_i d ed
        intro h1
        refine ⟨v, .ty T, .type (kindD d), .type T, _, rfl, .ty T, tyX_of (asD_is c1 i1 ed), kit_ty (kitB_is _ (kind_mem d) _ hT), (p.at g1).god c1 (.bl _) h1⟩
      · exact fun h => h.elim⟩

/-! ### methods of lists -/
def dMeth (f : U → List U → Sto → QA → Prop) (to : AE) (ta : AA) : AE := fun E m Q => to E m fun o m1 => (asL m1 o).isSome = true ∧ ta E m1 fun us m2 => f o us m2 Q
def SimM (K : PySem.W.Frag) (r : V → List V → Hp → VK → Prop) (f : U → List U → Sto → QA → Prop) : Prop := ∀ (F : Hp) (ro : List Addr) (H : Hp) (m : Sto) (o : U) (x : V) (us : List U) (vs : List V) (Q : VK) (Qa : QA), ConM K F ro H m → IsU K F ro o x → IsUs K F ro us vs → f o us m Qa → Post K F ro H Qa Q → r x vs H Q
theorem tyV_list {K : PySem.W.Frag} {F H : Hp} {ro : List Addr} {m : Sto} (c : ConM K F ro H m) {u : U} {v : V} (h : IsU K F ro u v) (e : (asL m u).isSome = true) : tyV K "list" v H := by
  obtain ⟨l, el⟩ := Option.isSome_iff_exists.mp e
  obtain ⟨a, xs, rfl, r, _⟩ := asL_sq c h el
  exact .inl ⟨rfl, xs, .inl r⟩
theorem de_meth {o e : Expr} {es : List Expr} {fo : AE} {g : AA} {name : Str} {id : String} {apos cpos : Pos} {r : V → List V → Hp → VK → Prop} {f : U → List U → Sto → QA → Prop} (slot : Slot "list" name id) (hty : typeOf (.builtin id) = pure (.type "method_descriptor")) (hm : MtR X id r) (hs : SimM X.K r f) (ho : DE X o fo) (ha : DA X (e :: es) g)
    (hbase : attributeBase o name X.env (eval o X.env) = eval o X.env := by rfl)
    (hfew : ((backTo cpos (starEach (e :: es) X.env)).all (fun x => !x.1) && (backToKw cpos (keywordEach [] X.env)).all (fun x => x.1.isSome)
      && decide ((e :: es).length + ([] : List Keyword).length + (if ([] : List Keyword).isEmpty then 0 else 1) < 30)) = true := by rfl)
    (hline : (apos.endLine == cpos.line) = true := by rfl) (hst : starEach (e :: es) X.env = (false, eval e X.env) :: starEach es X.env := by rfl) (hplain : (backTo cpos (starEach es X.env)).any (·.1) = false := by rfl) :
    DE X (.Call (.Attribute o name apos) (e :: es) [] cpos) (dMeth f fo g) := pe_imp (pe_bm PySem.F.plainAttrs_list slot hty hm ho ha hbase hfew hline hst hplain) fun σ H Q ⟨F, ro, E, m, Qa, cm, ce, hf, p⟩ =>
  ⟨F, ro, E, m, _, cm, ce, hf, fun F1 ro1 H1 u v m1 g1 c1 i1 h1 => ⟨tyV_list c1 i1 h1.1, F1, ro1, E, m1, _, c1, ce.mono g1, h1.2, fun F2 ro2 H2 us vs m2 g2 c2 i2 h2 => hs F2 ro2 H2 m2 u v us vs Q Qa c2 (i1.mono g2) i2 h2 (p.at (g1.trans g2))⟩⟩
theorem de_meth0 {o : Expr} {fo : AE} {name : Str} {id : String} {apos cpos : Pos} {r : V → List V → Hp → VK → Prop} {f : U → List U → Sto → QA → Prop} (slot : Slot "list" name id) (hty : typeOf (.builtin id) = pure (.type "method_descriptor")) (hm : MtR X id r) (hs : SimM X.K r f) (ho : DE X o fo)
    (hbase : attributeBase o name X.env (eval o X.env) = eval o X.env := by rfl) (hline : (apos.endLine == cpos.line) = true := by rfl) :
    DE X (.Call (.Attribute o name apos) [] [] cpos) (dMeth f fo dNil) := pe_imp (pe_bm0 PySem.F.plainAttrs_list slot hty hm ho hbase hline) fun σ H Q ⟨F, ro, E, m, Qa, cm, ce, hf, p⟩ =>
  ⟨F, ro, E, m, _, cm, ce, hf, fun F1 ro1 H1 u v m1 g1 c1 i1 h1 => ⟨tyV_list c1 i1 h1.1, hs F1 ro1 H1 m1 u v [] [] Q Qa c1 i1 .nil h1.2 (p.at g1)⟩⟩
/-- a cell's list -/
theorem cell_of {K : PySem.W.Frag} {F H : Hp} {ro : List Addr} {m : Sto} (c : ConM K F ro H m) {k : Nat} {v : V} {l : List PyData} (h : IsU K F ro (.r k) v) (e : m[k]? = some (.lst l)) : ∃ a xs, v = .ref a ∧ ro[k]? = some a ∧ H a = some (.lst xs) ∧ IsDs K F xs l := by
  obtain ⟨a, h1, h2⟩ := h
  obtain ⟨_, xs, hx, hd⟩ : CellOk K F H a (.lst l) := c.cell k a _ h1 e
  exact ⟨a, xs, h2, h1, hx, hd⟩
/-- a cell's list replaced -/
theorem Post.put {K : PySem.W.Frag} {F H : Hp} {ro : List Addr} {m : Sto} {Qa : QA} {Q : VK} (p : Post K F ro H Qa Q) (c : ConM K F ro H m) {k : Nat} {a : Addr} {l l' : List PyData} {xs : List V} (h1 : ro[k]? = some a) (e : m[k]? = some (.lst l)) (hd : IsDs K F xs l') {d : PyData} {v : V} (hv : IsD K F v d) (q : Qa (.v d) (m.set k (.lst l'))) : Q v (upd H a (.lst xs)) := by
  obtain ⟨c1, g1⟩ := c.cellSet h1 e hd
  exact (p.at g1).god c1 (IsD.mono g1.ex hv) q
def aAppend : U → List U → Sto → QA → Prop := fun o us m Q => match o, us with
  | .r k, [.v d] => (match m[k]? with
    | some (.lst l) => l.length < sizeLine ∧ Q (.v .none) (m.set k (.lst (l ++ [d])))
    | _ => False)
  | _, _ => False
theorem sim_append {K : PySem.W.Frag} : SimM K rAppend aAppend := by
  intro F ro H m o x us vs Q Qa c io iu h p
  unfold aAppend at h
  split at h
  · split at h
    · rename_i l el
      obtain ⟨a, xs, rfl, h1, h2, hd⟩ := cell_of c io el
      obtain ⟨v, rfl, i1⟩ := iu1 iu
      exact ⟨a, xs, v, rfl, rfl, h2, by rw [hd.length]; exact h.1, p.put c h1 el (hd.append (.cons i1 .nil)) .non h.2⟩
    · exact h.elim
  · exact h.elim
/-- xs.pop(): the last one -/
def aPop : U → List U → Sto → QA → Prop := fun o us m Q => match o, us with
  | .r k, [] => (match m[k]? with
    | some (.lst l) => (match l[l.length - 1]? with
      | some d => Q (.v d) (m.set k (.lst l.dropLast))
      | none => False)
    | _ => False)
  | _, _ => False
theorem sim_pop {K : PySem.W.Frag} : SimM K rPop aPop := by
  intro F ro H m o x us vs Q Qa c io iu h p
  unfold aPop at h
  split at h
  · split at h
    · rename_i l el
      split at h
      · rename_i d ed
        obtain ⟨a, xs, rfl, h1, h2, hd⟩ := cell_of c io el
        cases iu
        obtain ⟨v, e1, e2⟩ := hd.get ed
        exact ⟨a, xs, v, rfl, rfl, h2, by rw [hd.length]; exact e1, p.put c h1 el hd.dropLast e2 h⟩
      · exact h.elim
    · exact h.elim
  · exact h.elim
/-- xs.pop(i), 0 ≤ i -/
def aPopAt : U → List U → Sto → QA → Prop := fun o us m Q => match o, us with
  | .r k, [.v (.int i)] => (match m[k]? with
    | some (.lst l) => 0 ≤ i ∧ i < 4611686018427387904 ∧ (match l[i.toNat]? with
      | some d => Q (.v d) (m.set k (.lst (l.eraseIdx i.toNat)))
      | none => False)
    | _ => False)
  | _, _ => False
theorem sim_popAt {K : PySem.W.Frag} : SimM K rPopAt aPopAt := by
  intro F ro H m o x us vs Q Qa c io iu h p
  unfold aPopAt at h
  split at h
  · split at h
    · rename_i l el
      obtain ⟨h0, h9, h⟩ := h
      split at h
      · rename_i d ed
        obtain ⟨a, xs, rfl, h1, h2, hd⟩ := cell_of c io el
        obtain ⟨v, rfl, i1⟩ := iu1 iu
        cases i1
        obtain ⟨v, e1, e2⟩ := hd.get ed
        have hlt := (List.getElem?_eq_some_iff.mp e1).1
        refine ⟨a, xs, _, _, v, rfl, rfl, h2, by omega, by omega, ?_, e1, p.put c h1 el (hd.eraseIdx _) e2 h⟩
        exact (ixN_seq (n := xs.length) (by unfold ixN; rw [if_pos h0, if_pos (by omega)])).1
      · exact h.elim
    · exact h.elim
  · exact h.elim
def aReverse : U → List U → Sto → QA → Prop := fun o us m Q => match o, us with
  | .r k, [] => (match m[k]? with
    | some (.lst l) => Q (.v .none) (m.set k (.lst l.reverse))
    | _ => False)
  | _, _ => False
theorem sim_reverse {K : PySem.W.Frag} : SimM K rReverse aReverse := by
  intro F ro H m o x us vs Q Qa c io iu h p
  unfold aReverse at h
  split at h
  · split at h
    · rename_i l el
      obtain ⟨a, xs, rfl, h1, h2, hd⟩ := cell_of c io el
      cases iu
      exact ⟨a, xs, rfl, rfl, h2, p.put c h1 el hd.reverse .non h⟩
    · exact h.elim
  · exact h.elim
def aClear : U → List U → Sto → QA → Prop := fun o us m Q => match o, us with
  | .r k, [] => (match m[k]? with
    | some (.lst l) => Q (.v .none) (m.set k (.lst []))
    | _ => False)
  | _, _ => False
theorem sim_clear {K : PySem.W.Frag} : SimM K rClear aClear := by
  intro F ro H m o x us vs Q Qa c io iu h p
  unfold aClear at h
  split at h
  · split at h
    · rename_i l el
      obtain ⟨a, xs, rfl, h1, h2, hd⟩ := cell_of c io el
      cases iu
      exact ⟨a, xs, rfl, rfl, h2, p.put c h1 el .nil .non h⟩
    · exact h.elim
  · exact h.elim
/-- xs[i] = e, xs a cell -/
def dSetIx (te to ti : AE) : AS := fun D E m => te E m fun u m1 => to E m1 fun o m2 => ti E m2 fun i m3 => match u, o, i with
  | .v d, .r k, .v (.int i) => (match m3[k]? with
    | some (.lst l) => (match ixN l.length i with
      | some j => D.nx E (m3.set k (.lst (l.set j d)))
      | none => False)
    | _ => False)
  | _, _, _ => False
theorem ds_setix {o i e : Expr} {fo fi fe : AE} {p2 pos : Pos} (he : DE X e fe) (ho : DE X o fo) (hi : DE X i fi) (ha : ∀ v, assign (.Subscript o i p2) X.env v = (do
      let ov ← holding [v] (eval o X.env)
      let iv ← holding [v, ov] (eval i X.env)
      standAt p2
      holding [v, ov, iv] (setItem ov iv v)
      release [v, ov, iv] []) := by intro _; rfl) (hs : swapsWithSole [.Subscript o i p2] e pos.line X.env = pure false := by rfl) (hw : swappedStores [.Subscript o i p2] e X.env = pure none := by rfl)
    (h1 : (assignEach [.Subscript o i p2] X.env).map (·.2) = [assign (.Subscript o i p2) X.env] := by rfl) : DS X (.Assign [.Subscript o i p2] e pos) (dSetIx fe fo fi) :=
  ps_imp (ps_asg he (pg_sub ho hi set_list ha) hs hw h1) fun D σ H ⟨F, ro, E, m, Da, c, ce, hf, p⟩ =>
    ⟨F, ro, E, m, _, c, ce, hf, fun F1 ro1 H1 u v m1 g1 c1 i1 h1 => ⟨F1, ro1, E, m1, _, c1, ce.mono g1, h1, fun F2 ro2 H2 o w m2 g2 c2 i2 h2 => ⟨F2, ro2, E, m2, _, c2, ce.mono (g1.trans g2), h2, fun F3 ro3 H3 i x m3 g3 c3 i3 h3 => by
      revert h3
      split
      · split
        · rename_i l el
          split
          · rename_i j ej
            intro h3
            obtain ⟨a, xs, rfl, q1, q2, hd⟩ := cell_of c3 (i2.mono g3) el
            cases i3
            have hv := i1.mono (g2.trans g3)
            obtain ⟨c4, g4⟩ := c3.cellSet q1 el (hd.set hv j)
            exact ⟨a, xs, _, j, rfl, rfl, q2, by rw [hd.length]; exact ej, p.nx _ _ _ σ E _ (g1.trans (g2.trans (g3.trans g4))) c4 (ce.mono (g1.trans (g2.trans (g3.trans g4)))) h3⟩
          · exact fun h => h.elim
        · exact fun h => h.elim
      · exact fun h => h.elim⟩⟩⟩
/-- x op= e -/
def dAug (i : Nat) (f : R2A) (t : AE) : AS := fun D E m => match E[i]? with
  | some (some u) => t E m fun w m1 => f u w m1 fun z m2 => D.nx (E.set i (some z)) m2
  | _ => False
theorem ds_aug (i : Nat) {x : Str} {e : Expr} {fe : AE} {op : Operator} {r : R2} {f : R2A} {pos pos' : Pos} (hN : X.N.Nodup) (ho : OpR X (inplaceOp op) r) (hs : Sim2 X.K r f) (he : DE X e fe) (hi : X.N[i]? = some x := by rfl) (hx : Loc X.env.scope x := by first | exact Or.inl rfl | exact Or.inr rfl)
    (hf : X.fn x = true ∨ X.env.scope.names.lookup x = some .local := by first | exact .inl rfl | exact .inr rfl | assumption) : DS X (.AugAssign (.Name x pos') op e pos) (dAug i f fe) :=
  ps_imp (ps_aug (ti := fun x y H Q => r x y H Q) hN hi hx he (fun pins s σ H x y v u Q I r1 r2 h => ho pins s σ H x y v u Q I r1 r2 h) hf) fun D σ H ⟨F, ro, E, m, Da, c, ce, hf, p⟩ => by
    unfold dAug at hf
    split at hf
    · rename_i u eu
      obtain ⟨v, h1, h2⟩ := ce.val i u eu
      exact ⟨v, h1, F, ro, E, m, _, c, ce, hf, fun F1 ro1 H1 w y m1 g1 c1 i1 q1 => hs F1 ro1 H1 m1 u w v y _ _ c1 (h2.mono g1) i1 q1 fun F2 ro2 H2 z x2 m2 g2 c2 i2 q2 => p.nx F2 ro2 H2 _ _ m2 (g1.trans g2) c2 ((ce.mono (g1.trans g2)).set i i2) q2⟩
    · exact hf.elim

/-! ### what a for walks -/
/-- a list (a cell may not change meanwhile), a tuple -/
def guardOf (m : Sto) : U → Sto → Prop
  | .r k => fun m' => m'[k]? = m[k]?
  | _ => fun _ => True
def sList (t : AE) : AI := fun E m R => t E m fun u m1 => match asL m1 u with
  | some l => R (l.map .v) (guardOf m1 u) m1
  | none => False
def sTup (t : AE) : AI := fun E m R => t E m fun u m1 => match u with
  | .v (.tuple l) => R (l.map .v) (fun _ => True) m1
  | _ => False
/-- a list at an address, while its guard holds -/
theorem list_at {K : PySem.W.Frag} {F H : Hp} {ro : List Addr} {m : Sto} (c : ConM K F ro H m) {u : U} {v : V} (iu : IsU K F ro u v) {l : List PyData} (e : asL m u = some l) :
    ∃ a, v = .ref a ∧ ∀ (F' : Hp) (ro' : List Addr) (H' : Hp) (m' : Sto), Gro F ro H F' ro' H' → ConM K F' ro' H' m' → guardOf m u m' → ∃ xs, Rd H' a (.lst xs) ∧ IsDs K F' xs l := by
  cases u with
  | v d =>
    cases d <;> simp [asL] at e
    subst e
    cases iu with
    | lst h1 h2 => exact ⟨_, rfl, fun F' ro' H' m' g c' _ => ⟨_, .inl (c'.ex _ _ (g.ex _ _ h1)), IsDs.mono g.ex h2⟩⟩
  | r k =>
    obtain ⟨a, h1, h2⟩ := iu
    refine ⟨a, h2, fun F' ro' H' m' g c' gd => ?_⟩
    have gd' : m'[k]? = m[k]? := gd
    simp only [asL] at e
    rw [← gd'] at e
    cases q : m'[k]? with
    | none => rw [q] at e; cases e
    | some x =>
      rw [q] at e
      cases x with
      | dead => cases e
      | dct l' => cases e
      | lst l' =>
        cases e
        obtain ⟨t, et, _⟩ := g.more
        obtain ⟨_, xs, hx, hd⟩ : CellOk K F' H' a (.lst l) := c'.cell k a _ (by rw [et, List.getElem?_append_left (List.getElem?_eq_some_iff.mp h1).1]; exact h1) q
        exact ⟨xs, .inl hx, hd⟩
  | s ns => simp [asL] at e
  | o t => simp [asL] at e
theorem di_list {tg e : Expr} {f : AE} (h : DE X e f) : DI X tg e (sList f) := pi_imp (pi_list h) fun σ H R ⟨F, ro, E, m, Ra, c, ce, hf, p⟩ =>
  ⟨F, ro, E, m, _, c, ce, hf, fun F1 ro1 H1 u v m1 g1 c1 i1 h1 => by
    revert h1
    split
    · rename_i l el
      intro h1
      obtain ⟨a, rfl, at_⟩ := list_at c1 i1 el
      have gd0 : guardOf m1 u m1 := by cases u <;> first | trivial | rfl
      obtain ⟨xs0, r0, d0⟩ := at_ F1 ro1 H1 m1 Gro.refl c1 gd0
      refine ⟨a, rfl, ⟨xs0, .inl r0⟩, p F1 ro1 H1 _ _ m1 _ g1 c1 ?_ h1⟩
      refine ⟨fun i F' ro' H' m' g c' gd hi => ?_, fun F' ro' H' m' g c' gd => ?_, fun i w F' ro' H' m' x H2 g c' gd hw hy => ?_⟩
      · obtain ⟨xs, r, d⟩ := at_ F' ro' H' m' g c' gd
        rw [List.length_map] at hi
        obtain ⟨v, e1, _⟩ := d.get (List.getElem?_eq_getElem hi)
        exact ⟨xs, v, .inl r, e1⟩
      · obtain ⟨xs, r, d⟩ := at_ F' ro' H' m' g c' gd
        exact ⟨xs, .inl r, by rw [d.length, List.length_map]; exact Nat.le_refl _⟩
      · obtain ⟨xs, r, d⟩ := at_ F' ro' H' m' g c' gd
        obtain ⟨rfl, hy⟩ := hy
        rw [List.getElem?_map] at hw
        obtain ⟨dd, e1, e2⟩ := Option.map_eq_some_iff.mp hw
        subst e2
        obtain ⟨v, e3, e4⟩ := d.get e1
        have ex := hy xs (.inl r)
        rw [e3] at ex
        cases ex
        exact ⟨F', c', Gro.refl, e4⟩
    · exact fun h => h.elim⟩
theorem di_tup {tg e : Expr} {f : AE} (h : DE X e f) : DI X tg e (sTup f) := pi_imp (pi_tup h) fun σ H R ⟨F, ro, E, m, Ra, c, ce, hf, p⟩ =>
  ⟨F, ro, E, m, _, c, ce, hf, fun F1 ro1 H1 u v m1 g1 c1 i1 h1 => by
    revert h1
    split
    · rename_i l
      intro h1
      cases i1 with
      | @tup a xs _ r0 d0 =>
      refine ⟨a, rfl, ⟨xs, .inl (rd_mono c1.ex r0)⟩, p F1 ro1 H1 _ _ m1 _ g1 c1 ?_ h1⟩
      refine ⟨fun i F' ro' H' m' g c' gd hi => ?_, fun F' ro' H' m' g c' gd => ?_, fun i w F' ro' H' m' x H2 g c' gd hw hy => ?_⟩
      · rw [List.length_map] at hi
        obtain ⟨v, e1, _⟩ := d0.get (List.getElem?_eq_getElem hi)
        exact ⟨xs, v, .inl (rd_mono c'.ex (rd_mono g.ex r0)), e1⟩
      · exact ⟨xs, .inl (rd_mono c'.ex (rd_mono g.ex r0)), by rw [d0.length, List.length_map]; exact Nat.le_refl _⟩
      · obtain ⟨rfl, hy⟩ := hy
        rw [List.getElem?_map] at hw
        obtain ⟨dd, e1, e2⟩ := Option.map_eq_some_iff.mp hw
        subst e2
        obtain ⟨v, e3, e4⟩ := d0.get e1
        have ex := hy xs (.inl (rd_mono c'.ex (rd_mono g.ex r0)))
        rw [e3] at ex
        cases ex
        exact ⟨F', c', Gro.refl, IsD.mono g.ex e4⟩
    · exact fun h => h.elim⟩
/-- range(n), range(a, b) -/
def rngU (lo : Int) (n : Nat) : List U := (List.range n).map fun (i : Nat) => U.v (.int (lo + (i : Int)))
theorem rng_ok {K : PySem.W.Frag} {F H : Hp} {ro : List Addr} (lo : Int) (n : Nat) : ItOk K F ro H (Itr lo n) (rngU lo n) fun _ => True := by
  have hl : (rngU lo n).length = n := by simp [rngU]
  refine ⟨fun i F' ro' H' m' g c' gd hi => ?_, fun F' ro' H' m' g c' gd => ?_, fun i w F' ro' H' m' x H2 g c' gd hw hy => ?_⟩
  · show i < n
    omega
  · show n ≤ _
    omega
  · obtain ⟨rfl, rfl⟩ := hy
    unfold rngU at hw
    rw [List.getElem?_map] at hw
    obtain ⟨dd, e1, e2⟩ := Option.map_eq_some_iff.mp hw
    obtain ⟨_, e3⟩ := List.getElem?_eq_some_iff.mp e1
    simp at e3
    subst e3 e2
    exact ⟨F', c', Gro.refl, .int _⟩
def sRng1 (t : AA) : AI := fun E m R => t E m fun us m1 => match us with
  | [.v (.int j)] => -4611686018427387904 ≤ j ∧ j < 4611686018427387904 ∧ R (rngU 0 j.toNat) (fun _ => True) m1
  | _ => False
def sRng2 (t : AA) : AI := fun E m R => t E m fun us m1 => match us with
  | [.v (.int i), .v (.int j)] => (-4611686018427387904 ≤ i ∧ i < 4611686018427387904 ∧ -4611686018427387904 ≤ j ∧ j < 4611686018427387904) ∧ R (rngU i (j - i).toNat) (fun _ => True) m1
  | _ => False
theorem di_rng1 {tg a : Expr} {g : AA} {p pos : Pos} (hm : X.mg "range" = none) (ha : DA X [a] g) (hg : Gl X "range" := by rfl) (hs : starEach [a] X.env = [(false, eval a X.env)] := by rfl) : DI X tg (.Call (.Name "range" p) [a] [] pos) (sRng1 g) :=
  pi_imp (pi_range1 hg hm ha hs) fun σ H R ⟨F, ro, E, m, Ra, c, ce, hf, p⟩ =>
    ⟨F, ro, E, m, _, c, ce, hf, fun F1 ro1 H1 us vs m1 g1 c1 i1 h1 => by
      revert h1
      split
      · intro h1
        obtain ⟨v, rfl, i2⟩ := iu1 i1
        cases i2
        exact ⟨_, rfl, by omega, by omega, p F1 ro1 H1 _ _ m1 _ g1 c1 (rng_ok 0 _) h1.2.2⟩
      · exact fun h => h.elim⟩
theorem di_rng2 {tg a b : Expr} {g : AA} {p pos : Pos} (hm : X.mg "range" = none) (ha : DA X [a, b] g) (hg : Gl X "range" := by rfl) (hs : starEach [a, b] X.env = [(false, eval a X.env), (false, eval b X.env)] := by rfl) (hs2 : starEach [b] X.env = [(false, eval b X.env)] := by rfl) :
    DI X tg (.Call (.Name "range" p) [a, b] [] pos) (sRng2 g) :=
  pi_imp (pi_range2 hg hm ha hs hs2) fun σ H R ⟨F, ro, E, m, Ra, c, ce, hf, p⟩ =>
    ⟨F, ro, E, m, _, c, ce, hf, fun F1 ro1 H1 us vs m1 g1 c1 i1 h1 => by
      revert h1
      split
      · intro h1
        obtain ⟨v, w, rfl, i2, i3⟩ := iu2 i1
        cases i2; cases i3
        exact ⟨_, _, rfl, by omega, p F1 ro1 H1 _ _ m1 _ g1 c1 (rng_ok _ _) h1.2⟩
      · exact fun h => h.elim⟩
/-- enumerate(xs) -/
def enumU (l : List PyData) : List U := (l.mapIdx fun i d => U.v (.tuple [.int (i : Int), d]))
def sEnum (t : AA) : AI := fun E m R => t E m fun us m1 => match us with
  | [u] => (match asL m1 u with
    | some l => R (enumU l) (guardOf m1 u) m1
    | none => False)
  | _ => False
theorem pair_known {K : PySem.W.Frag} {F H : Hp} {ro : List Addr} {m : Sto} (c : ConM K F ro H m) {T : Addr} (hT : H T = none) {xs : List V} {l : List PyData} (hd : IsDs K F xs l) : ∃ F2, ConM K F2 ro (upd H T (.tup xs)) m ∧ Gro F ro H F2 ro (upd H T (.tup xs)) ∧ IsD K F2 (.ref T) (.tuple l) := by
  obtain ⟨c1, g1⟩ := c.known hT (.tup xs)
  exact ⟨_, c1, g1, .tup (.inl upd_same) (IsDs.mono g1.ex hd)⟩
theorem di_enum {e : Expr} {g : AA} {p pos tpos : Pos} {elts : List Expr} {kk : Nat} (hm : X.mg "enumerate" = none) (ha : DA X [e] g) (hg : Gl X "enumerate" := by rfl) (hs : starEach [e] X.env = [(false, eval e X.env)] := by rfl) :
    DI X (.Tuple elts kk tpos) (.Call (.Name "enumerate" p) [e] [] pos) (sEnum g) :=
  pi_imp (pi_enum hg hm ha hs) fun σ H R ⟨F, ro, E, m, Ra, c, ce, hf, p⟩ =>
    ⟨F, ro, E, m, _, c, ce, hf, fun F1 ro1 H1 us vs m1 g1 c1 i1 h1 => by
      revert h1
      split
      · rename_i u
        split
        · rename_i l el
          intro h1
          obtain ⟨v, rfl, i2⟩ := iu1 i1
          obtain ⟨a, rfl, at_⟩ := list_at c1 i2 el
          have gd0 : guardOf m1 u m1 := by cases u <;> first | trivial | rfl
          obtain ⟨xs0, r0, d0⟩ := at_ F1 ro1 H1 m1 Gro.refl c1 gd0
          refine ⟨a, xs0, rfl, .inl r0, p F1 ro1 H1 _ _ m1 _ g1 c1 ?_ h1⟩
          have hlen : (enumU l).length = l.length := by simp [enumU]
          refine ⟨fun i F' ro' H' m' g c' gd hi => ?_, fun F' ro' H' m' g c' gd => ?_, fun i w F' ro' H' m' x H2 g c' gd hw hy => ?_⟩
          · obtain ⟨xs, r, d⟩ := at_ F' ro' H' m' g c' gd
            rw [hlen] at hi
            obtain ⟨v, e1, _⟩ := d.get (List.getElem?_eq_getElem hi)
            exact ⟨xs, v, .inl r, e1⟩
          · obtain ⟨xs, r, d⟩ := at_ F' ro' H' m' g c' gd
            exact ⟨xs, .inl r, by rw [d.length, hlen]; exact Nat.le_refl _⟩
          · obtain ⟨xs, r, d⟩ := at_ F' ro' H' m' g c' gd
            obtain ⟨T, y, rfl, hT, rfl, hy⟩ := hy
            unfold enumU at hw
            rw [List.getElem?_mapIdx] at hw
            obtain ⟨dd, e1, e2⟩ := Option.map_eq_some_iff.mp hw
            subst e2
            obtain ⟨v, e3, e4⟩ := d.get e1
            have ex := hy xs (.inl r)
            rw [e3] at ex
            cases ex
            exact pair_known c' hT (.cons (.int _) (.cons e4 .nil))
        · exact fun h => h.elim
      · exact fun h => h.elim⟩
/-- zip(xs, ys) -/
def zipU (l l' : List PyData) : List U := (l.zip l').map fun p => U.v (.tuple [p.1, p.2])
def sZip (t : AA) : AI := fun E m R => t E m fun us m1 => match us with
  | [u, w] => (match asL m1 u, asL m1 w with
    | some l, some l' => R (zipU l l') (fun m' => guardOf m1 u m' ∧ guardOf m1 w m') m1
    | _, _ => False)
  | _ => False
theorem di_zip {e e2 : Expr} {g : AA} {p pos tpos : Pos} {elts : List Expr} {kk : Nat} (hm : X.mg "zip" = none) (ha : DA X [e, e2] g) (hg : Gl X "zip" := by rfl)
    (hs : starEach [e, e2] X.env = (false, eval e X.env) :: starEach [e2] X.env := by rfl) (hpl : (backTo pos (starEach [e2] X.env)).any (·.1) = false := by rfl) :
    DI X (.Tuple elts kk tpos) (.Call (.Name "zip" p) [e, e2] [] pos) (sZip g) :=
  pi_imp (pi_zip hg hm ha hs hpl) fun σ H R ⟨F, ro, E, m, Ra, c, ce, hf, p⟩ =>
    ⟨F, ro, E, m, _, c, ce, hf, fun F1 ro1 H1 us vs m1 g1 c1 i1 h1 => by
      revert h1
      split
      · rename_i u w
        split
        · rename_i l l' el el'
          intro h1
          obtain ⟨v, x, rfl, i2, i3⟩ := iu2 i1
          obtain ⟨a, rfl, at_⟩ := list_at c1 i2 el
          obtain ⟨b, rfl, bt_⟩ := list_at c1 i3 el'
          have gd0 : guardOf m1 u m1 := by cases u <;> first | trivial | rfl
          have gd1 : guardOf m1 w m1 := by cases w <;> first | trivial | rfl
          obtain ⟨xs0, r0, d0⟩ := at_ F1 ro1 H1 m1 Gro.refl c1 gd0
          obtain ⟨ys0, r1, d1⟩ := bt_ F1 ro1 H1 m1 Gro.refl c1 gd1
          refine ⟨a, b, xs0, ys0, rfl, .inl r0, .inl r1, p F1 ro1 H1 _ _ m1 _ g1 c1 ?_ h1⟩
          have hlen : (zipU l l').length = min l.length l'.length := by simp [zipU]
          refine ⟨fun i F' ro' H' m' g c' gd hi => ?_, fun F' ro' H' m' g c' gd => ?_, fun i w F' ro' H' m' x H2 g c' gd hw hy => ?_⟩
          · obtain ⟨xs, r, d⟩ := at_ F' ro' H' m' g c' gd.1
            obtain ⟨ys, r', d'⟩ := bt_ F' ro' H' m' g c' gd.2
            rw [hlen] at hi
            have q1 : i < l.length := by omega
            have q2 : i < l'.length := by omega
            obtain ⟨v, e1, _⟩ := d.get (List.getElem?_eq_getElem q1)
            obtain ⟨v', e1', _⟩ := d'.get (List.getElem?_eq_getElem q2)
            exact ⟨xs, ys, v, v', .inl r, .inl r', e1, e1'⟩
          · obtain ⟨xs, r, d⟩ := at_ F' ro' H' m' g c' gd.1
            obtain ⟨ys, r', d'⟩ := bt_ F' ro' H' m' g c' gd.2
            refine ⟨xs, ys, .inl r, .inl r', ?_⟩
            have q1 := d.length
            have q2 := d'.length
            omega
          · obtain ⟨xs, r, d⟩ := at_ F' ro' H' m' g c' gd.1
            obtain ⟨ys, r', d'⟩ := bt_ F' ro' H' m' g c' gd.2
            obtain ⟨T, y, y', rfl, hT, rfl, hy, hy'⟩ := hy
            unfold zipU at hw
            rw [List.getElem?_map] at hw
            obtain ⟨dd, e1, e2⟩ := Option.map_eq_some_iff.mp hw
            subst e2
            obtain ⟨e1, e1'⟩ := List.getElem?_zip_eq_some.mp e1
            obtain ⟨v, e3, e4⟩ := d.get e1
            obtain ⟨v', e3', e4'⟩ := d'.get e1'
            have ex := hy xs (.inl r)
            rw [e3] at ex
            cases ex
            have ex' := hy' ys (.inl r')
            rw [e3'] at ex'
            cases ex'
            exact pair_known c' hT (.cons e4 (.cons e4' .nil))
        · exact fun h => h.elim
      · exact fun h => h.elim⟩
/-- [a, b, ..][i]: one of them, whatever it is -/
def dPick (ta : AA) (ti : AE) : AE := fun E m Q => ta E m fun us m1 => us.length ≤ 1000 ∧ ti E m1 fun i m2 => match i with
  | .v (.int i) => (match atI us i with
    | some u => Q u m2
    | none => False)
  | _ => False
theorem IsUs.get {K : PySem.W.Frag} {F : Hp} {ro : List Addr} : ∀ {us : List U} {vs : List V} {i : Nat} {u : U}, IsUs K F ro us vs → us[i]? = some u → ∃ v, vs[i]? = some v ∧ IsU K F ro u v
  | _, _, _, _, .nil, e => by simp at e
  | _, _, 0, _, .cons a _, e => by simp at e; subst e; exact ⟨_, rfl, a⟩
  | _, _, i + 1, u, .cons _ b, e => by
    obtain ⟨v, q1, q2⟩ := IsUs.get (i := i) (u := u) b (by simpa using e)
    exact ⟨v, by simpa using q1, q2⟩
theorem de_pick {es : List Expr} {b : Expr} {g : AA} {f : AE} {p1 pos : Pos} (ha : DA X es g) (hb : DE X b f) (hs : PlainIx b := by intro _ _; rfl) : DE X (.Subscript (.List es p1) b pos) (dPick g f) :=
  pe_imp (pe_ix ix_list (pe_lst ha) hb hs) fun σ H Q ⟨F, ro, E, m, Qa, cm, ce, hf, p⟩ =>
    ⟨F, ro, E, m, _, cm, ce, hf, fun F1 ro1 H1 us vs m1 g1 c1 i1 h1 => by
      have hlen := i1.length
      obtain ⟨hz, h1⟩ := h1
      refine ⟨by rw [sizeLine_eq]; omega, fun b hb => ?_⟩
      obtain ⟨c2, g2⟩ := c1.known hb (.lst vs)
      refine ⟨_, ro1, E, m1, _, c2, (ce.mono g1).mono g2, h1, fun F3 ro3 H3 w x m3 g3 c3 i3 h3 => ?_⟩
      revert h3
      split
      · split
        · rename_i i _ u eu
          intro h3
          cases i3
          unfold atI at eu
          cases q : ixN us.length i with
          | none => rw [q] at eu; cases eu
          | some j =>
            rw [q] at eu
            obtain ⟨v, e1, e2⟩ := IsUs.get i1 eu
            have g13 := g2.trans g3
            refine ⟨b, vs, i, v, rfl, rfl, .inl (.inl (c3.ex _ _ (g3.ex _ _ upd_same))), ?_, (p.at (g1.trans g13)).go c3 (e2.mono g13) h3⟩
            unfold atI
            rw [← hlen, q]
            exact e1
        · exact fun h => h.elim
      · exact fun h => h.elim⟩
end
end Z
/-! Z6: defs as they stand behind the top; the end of a law. -/
namespace Z
open PySem PySem.Spec PyProof.Rows L2

/-- a def of the text: where it stands, how it is called -/
structure Dfn (K : PySem.W.Frag) (mg : Str → Option Value) (x : Str) (st : Stmt) (ps : List Str) : Prop where
  ex : ∃ f fd, Fun K x x st f fd ∧ mg x = some (.ref f) ∧ Binds K fd ps []
/-- a def that keeps a promise -/
structure Cal (P : Program) (w : World) (K : PySem.W.Frag) (mg : Str → Option Value) (base : Heap) (k : Nat) (x : Str) (ps : List Str) (a : ASp) : Prop where
  ex : ∃ f fd, FnG P w K mg base k f fd ps a ∧ mg x = some (.ref f) ∧ PySem.W.keepIn K (.ref f) = true ∧ Binds K fd ps []
section
variable {P : Program} {w : World} {K : PySem.W.Frag} {mg : Str → Option Value} {base : Heap} {k : Nat} {x : Str} {st : Stmt} {ps : List Str} {a a' : ASp}
theorem Cal.imp (c : Cal P w K mg base k x ps a) (h : ∀ us m Q, a' us m Q → a us m Q) : Cal P w K mg base k x ps a' := by
  obtain ⟨f, fd, F, r⟩ := c.ex
  exact ⟨f, fd, F.imp h, r⟩
theorem Cal.mk' {N : List Str} {g : AS} (d : Dfn K mg x st ps) (S : FnScope N ps (defScope st)) (len : ∀ us m Q, a us m Q → us.length = ps.length)
    (body : ∀ (f : Addr) (cdv : Value) (A : Around) (outer : List Env) (s : Shared) (H : Hp) (E : XK), Room k (A.deeper (envOfC x (defScope st) s.heap.objs.size f cdv)) → (A.deeper (envOfC x (defScope st) s.heap.objs.size f cdv)).guards = some [] →
      DSs (cxOf CX0 P w K mg base N x (defScope st) f cdv A outer s H E).nox (defBody st) g)
    (sem : ∀ us m Q, a us m Q → g (endsD m.length Q) (startU N.length us) m) : Cal P w K mg base (k + 1) x ps a := by
  obtain ⟨f, fd, F, hm, hb⟩ := d.ex
  exact ⟨f, fd, FnG.of F S len (body f) sem, hm, F.kp, hb⟩
/-- a def of which nothing is asked -/
theorem cal_none (d : Dfn K mg x st ps) : Cal P w K mg base k x ps (fun _ _ _ => False) := by
  obtain ⟨f, fd, F, hm, hb⟩ := d.ex
  exact ⟨f, fd, ⟨fun _ _ _ h => h.elim, fun _ _ _ _ _ _ _ _ _ _ _ _ _ _ ⟨_, _, _, _, _, _, _, ha, _⟩ => ha.elim⟩, hm, F.kp, hb⟩
theorem Dfn.mk' {h : Heap} {f : Addr} {od an : Option Addr} {sl : Array (Option Value)} {oc kV dc pm cd ct : Value} (X : K.In h) (G : h.Ns mainGlobals mg)
    (a1 : PySem.W.nsIn K mainGlobals x = some (some (.ref f))) (l1 : K.lookup f = some ⟨oc, od, .func (PySem.W.fnOf x x (defArgs st) (defBody st) (defScope st) .none kV dc pm an cd ct), sl⟩) (c1 : PySem.W.codeIn K cd x = true) (k1 : PySem.W.keepIn K (.ref f) = true)
    (hb : ∀ (kV doc pm : Value) (an : Option Addr) (cdv ct : Value) (us : List Value), us.length = ps.length → bindArgs (PySem.W.fnOf x x (defArgs st) (defBody st) (defScope st) .none kV doc pm an cdv ct) ⟨us, []⟩ = pure (ps.zip us)) : Dfn K mg x st ps :=
  ⟨f, _, fun_mk l1 c1 k1, PySem.W.mg_of X G a1, (fun_mk l1 c1 k1).binds hb⟩
end
section
variable {X : Cx} {k j : Nat} {ps : List Str} {a : ASp} {x : Str} {p pos : Pos} {e : Expr} {es : List Expr} {g : AA}
theorem de_calC (c : Cal X.prog X.w X.K X.mg X.base k x ps a) (hr : Room j X.A) (hgd : X.A.guards = some []) (ha : DA X (e :: es) g) (hk : k ≤ j := by decide) (hg : Gl X x := by rfl)
    (hdb : (x == ("__debug__" : Str)) = false := by decide) (he : starEach (e :: es) X.env = (false, eval e X.env) :: starEach es X.env := by rfl) (hpl : (backTo pos (starEach es X.env)).any (·.1) = false := by rfl) :
    DE X (.Call (.Name x p) (e :: es) [] pos) (dCall a g) := by
  obtain ⟨f, fd, F, hm, kp, hb⟩ := c.ex
  exact de_call F (hr.mono hk) hgd hm kp hb ha hg hdb he hpl
theorem de_calC0 (c : Cal X.prog X.w X.K X.mg X.base k x ps a) (hr : Room j X.A) (hgd : X.A.guards = some []) (hk : k ≤ j := by decide) (hg : Gl X x := by rfl) (hdb : (x == ("__debug__" : Str)) = false := by decide) : DE X (.Call (.Name x p) [] [] pos) (dCall a dNil) := by
  obtain ⟨f, fd, F, hm, kp, hb⟩ := c.ex
  exact de_call0 F (hr.mono hk) hgd hm kp hb hg hdb
end

/-! ### the law's own promise and its end -/
def spLaw : ASp := fun us m Q => ∃ ns : List Int, us = [.s ns] ∧ ns.length ≤ 63 ∧ (∀ z ∈ ns, Builtin.Int.intBits z ≤ 1048576) ∧ m = [] ∧ Q (.v (.bool true)) []
/-- the call of a law's def, from the heap behind the top: the script is tracked unless it is one of the top's own objects -/
theorem lawG {P : Program} {w : World} {K : PySem.W.Frag} {mg mb : Str → Option Value} {k : Nat} {fa a : Addr} {y x : Str} {s1 : Shared} {vs : List Value} {ns : List Int}
    (KX : K.In s1.heap) (hns : s1.heap.Ns mainGlobals mg) (hb : s1.heap.Ns builtinsNs mb) (hbb : ∀ x : Str, x ≠ "__name__" → mb x = bootBuiltins x) (hlim : s1.heap.NoLimit) (hg : s1.gens = #[])
    (ha : s1.heap.get? a = some { cls := .type "list", data := .seq vs.toArray }) (hi : IntsAre vs ns) (hl : ns.length ≤ 63) (hbits : ∀ z ∈ ns, Builtin.Int.intBits z ≤ 1048576) (hr : Room k callerA)
    (hmf : mg y = some (.ref fa)) (FF : ∀ base : Heap, K.In base → base.Ns mainGlobals mg → Cal P w K mg base k y [x] spLaw) :
    codeAny (model P w) callerA (.call (.ref fa) ⟨[.ref a], []⟩) (fun r s' => r = .ok (.ret (.bool true)) ∧ OldK s1.heap s'.heap ∧ s'.os = s1.os ∧ AllBare s'.gens) s1 := by
  have rv := vals_ints hi
  have lenV := hi.length
  have main : ∀ H : Hp, (∀ b u, H b = some u → b = a ∧ K.lookup a = none ∧ u = .frz { cls := .type "list", data := .seq vs.toArray } (.lst (ns.map V.int))) → SqL K H a (ns.map V.int) →
      codeAny (model P w) callerA (.call (.ref fa) ⟨[.ref a], []⟩) (fun r s' => r = .ok (.ret (.bool true)) ∧ OldK s1.heap s'.heap ∧ s'.os = s1.os ∧ AllBare s'.gens) s1 := by
    intro H only sq
    have hok : HOk P w H s1.heap := fun b u q => by
      obtain ⟨rfl, _, rfl⟩ := only b u q
      exact ⟨ha, by rw [List.length_map, sizeLine_eq]; omega, vs, _, rv, ha⟩
    have nd : ∀ {b : Addr} {o : Obj} {es : Array DictEntry} {ep : Nat}, s1.heap.get? b = some o → o.data = .dict es ep → H b = none := fun {b o es ep} q d => by
      cases z : H b with
      | none => rfl
      | some u =>
        obtain ⟨rfl, _, _⟩ := only b u z
        rw [ha] at q
        cases q
        cases d
    have tr : ∀ {b : Addr} {m : Str → Option Value}, s1.heap.Ns b m → (hidT s1.heap H).Ns b m := fun {b m} ⟨o, es, ep, q, d, r⟩ => ⟨o, es, ep, hidT_get q (nd q d), d, r⟩
    have inK : K.In (hidT s1.heap H) := fun b o q => hidT_get (KX b o q) (by
      cases z : H b with
      | none => rfl
      | some u =>
        obtain ⟨rfl, z2, _⟩ := only b u z
        rw [z2] at q
        cases q)
    have md : Mod K mg (hidT s1.heap H) := ⟨inK, tr hns, ⟨mb, tr hb, hbb⟩, let ⟨mc, q1, q2⟩ := hlim; ⟨mc, tr q1, q2⟩⟩
    have env : Env0 P w K mg (hidT s1.heap H) callerA [] s1 H := ⟨rfl, md, fun b o q => of_hidT q, Nat.le_of_eq (hidT_size _ _), trivial, fun b z => (List.not_mem_nil z).elim, hok, .of_eq hg⟩
    have sp : cSp K spLaw [.ref a] H (fun v _ => v = .bl true) (fun _ _ _ => False) := by
      refine ⟨H, [], [], [.s ns], fun u m => u = .v (.bool true), ⟨Same.refl H, rfl, List.nodup_nil, fun k a c q => by simp at q⟩, .cons ⟨a, rfl, sq⟩ .nil, ⟨ns, rfl, hl, hbits, rfl, rfl⟩, ?_⟩
      intro F' ro' H' u v m' _ _ iu q
      subst q
      cases iu
      rfl
    obtain ⟨f, fd, F, hm, kp, hbind⟩ := (FF _ inK (tr hns)).ex
    have ef := hmf.symm.trans hm
    cases ef
    refine codeAny_mono (F.run callerA [] s1 H ⟨[.ref a], []⟩ [.ref a] [.ref a] _ _ hr rfl env (hbind s1 [.ref a] KX rfl) (.cons rfl .nil) sp) fun r s' h => ?_
    cases r with
    | error e => exact False.elim h
    | ok fl =>
      cases fl with
      | next => exact False.elim h
      | brk => exact False.elim h
      | cont => exact False.elim h
      | ret u =>
        obtain ⟨v, H', os, bare, un, hok', r', q⟩ := h
        have qv : v = .bl true := q
        rw [qv] at r'
        obtain rfl : u = Value.bool true := r'
        refine ⟨rfl, OldK.of_keep fun b o q => ?_, os, bare⟩
        cases z : H b with
        | none => exact un.keep b o q z (fun z => (List.not_mem_nil z).elim) (List.not_mem_nil)
        | some u =>
          obtain ⟨rfl, _, rfl⟩ := only b u z
          obtain ⟨y1, _⟩ := hok' b _ (un.frzs b _ _ z)
          rw [ha] at q
          cases q
          exact y1
  cases hk : K.lookup a with
  | some o =>
    have q := KX a o hk
    rw [ha] at q
    cases q
    exact main (fun _ => none) (fun b u z => nomatch z) (.inr ⟨_, vs.toArray, _, hk, rfl, rfl, rfl, by rw [List.size_toArray, lenV, sizeLine_eq]; omega, by simpa using rv⟩)
  | none =>
    refine main (fun b => if b = a then some (.frz { cls := .type "list", data := .seq vs.toArray } (.lst (ns.map V.int))) else none) (fun b u z => ?_) (.inl (.inr ⟨_, if_pos rfl⟩))
    have z' : (if b = a then some (HO.frz { cls := .type "list", data := .seq vs.toArray } (.lst (ns.map V.int))) else none) = some u := z
    split at z'
    · rename_i e
      cases z'
      exact ⟨e, hk, rfl⟩
    · cases z'
theorem walkG {l : PySem.W.OpenLaw} {k : Nat} {q : Program} {loose : List Str} {XP : (Str → Option Value) → Heap → Prop} {YP : World → Heap → Prop} {d : DefRec} {K : Params → PySem.W.Frag} {x : Str}
    (hn : l.most = some 63) (hdf : d.params.defaults = []) (hr : Room k callerA) (hY : ∀ (w : World) (h : Heap), YP w h → (K w.params).In h)
    (FF : ∀ (w : World) (mg : Str → Option Value) (h : Heap), (K w.params).In h → h.Ns mainGlobals mg → ∀ base : Heap, (K w.params).In base → base.Ns mainGlobals mg → Cal l.prog w (K w.params) mg base k d.name [x] spLaw) :
    PySem.W.WalkO q loose XP YP l.row.toRowW d [] (fun f vs => PySem.call f vs) := by
  refine Att.attach_callB hn hdf fun w s0 s1 mg mb fa o pm cd doc a vs ns G Y ho hd hcd hmg hobj hints hlen hbits hg => ?_
  exact lawG (hY w _ Y) G.T.g G.T.b G.T.builtins G.T.nolimit hg hobj hints hlen hbits hr hmg (FF w mg _ (hY w _ Y) G.T.g)

/-! ### the built-ins by their names -/
theorem bt_len : bootBuiltins "len" = some (.builtin "len") := by decide +kernel
theorem bt_max : bootBuiltins "max" = some (.builtin "max") := by decide +kernel
theorem bt_min : bootBuiltins "min" = some (.builtin "min") := by decide +kernel
theorem bt_abs : bootBuiltins "abs" = some (.builtin "abs") := by decide +kernel
theorem bt_sum : bootBuiltins "sum" = some (.builtin "sum") := by decide +kernel
theorem bt_all : bootBuiltins "all" = some (.builtin "all") := by decide +kernel
theorem bt_any : bootBuiltins "any" = some (.builtin "any") := by decide +kernel
theorem bt_sorted : bootBuiltins "sorted" = some (.builtin "sorted") := by decide +kernel
theorem bt_repr : bootBuiltins "repr" = some (.builtin "repr") := by decide +kernel
theorem bt_isinstance : bootBuiltins "isinstance" = some (.builtin "isinstance") := by decide +kernel
theorem bt_list : bootBuiltins "list" = some (.type "list") := by decide +kernel
theorem bt_tuple : bootBuiltins "tuple" = some (.type "tuple") := by decide +kernel
theorem bt_int : bootBuiltins "int" = some (.type "int") := by decide +kernel
theorem bt_str : bootBuiltins "str" = some (.type "str") := by decide +kernel
theorem bt_bool : bootBuiltins "bool" = some (.type "bool") := by decide +kernel
theorem bt_dict : bootBuiltins "dict" = some (.type "dict") := by decide +kernel
theorem bt_set : bootBuiltins "set" = some (.type "set") := by decide +kernel
theorem bt_range : bootBuiltins "range" = some (.type "range") := by decide +kernel
theorem bt_enumerate : bootBuiltins "enumerate" = some (.type "enumerate") := by decide +kernel
theorem bt_zip : bootBuiltins "zip" = some (.type "zip") := by decide +kernel
theorem u66 {A : Around} {k : Nat} (h : Room k A) : A.units + 66 < cLine := by
  have := h.un
  omega
end Z
/-! Y1: more constructs: dict displays of constants, list(range(..)), extend, index, count. -/
namespace Z
open PySem PySem.Spec PyProof.Rows L2
section
variable {X : Cx} {pos : Pos}
theorem Post.newD {K : PySem.W.Frag} {F H : Hp} {ro : List Addr} {m : Sto} {Qa : QA} {Q : VK} (p : Post K F ro H Qa Q) (c : ConM K F ro H m) {kvs : List (Key × V)} {l : List (PyData × PyData)} (h : IsDk K F kvs l) (q : Qa (.v (.dict l)) m) : ∀ b, H b = none → Q (.ref b) (upd H b (.dK kvs)) := fun b hb => by
  obtain ⟨c1, g1⟩ := c.known hb (.dK kvs)
  exact (p.at g1).god c1 (IsD.dct upd_same (IsDk.mono g1.ex h)) q
theorem de_dict0 : DE X (.Dict [] [] pos) (dC (.dict [])) := pe_imp pe_dnewK fun σ H Q ⟨F, ro, E, m, Qa, cm, ce, hf, p⟩ => p.newD cm .nil hf
theorem de_dictI {k v : Int} {x1 x2 : Nat} {p1 p2 : Pos} : DE X (.Dict [some (.Constant (.int k) x1 p1)] [.Constant (.int v) x2 p2] pos) (dC (.dict [(.int k, .int v)])) :=
  pe_imp (pe_disp (pps_cons pe_int pe_int pps_nil) rfl rfl (by simp) (by simp)) fun σ H Q ⟨F, ro, E, m, Qa, cm, ce, hf, p⟩ => fun b hb => by
    refine ⟨upd_same, [(.inl k, .int v)], rfl, by simp, ?_⟩
    rw [upd_upd]
    exact p.newD cm (l := [(.int k, .int v)]) (.cons (k := .inl k) (.int v) .nil) hf b hb
theorem de_dictS {k : Str} {v : Int} {x1 x2 : Nat} {p1 p2 : Pos} : DE X (.Dict [some (.Constant (.str k) x1 p1)] [.Constant (.int v) x2 p2] pos) (dC (.dict [(.str k, .int v)])) :=
  pe_imp (pe_disp (pps_cons pe_str pe_int pps_nil) rfl rfl (by simp) (by simp)) fun σ H Q ⟨F, ro, E, m, Qa, cm, ce, hf, p⟩ => fun b hb => by
    refine ⟨upd_same, [(.inr k, .int v)], rfl, by simp, ?_⟩
    rw [upd_upd]
    exact p.newD cm (l := [(.str k, .int v)]) (.cons (k := .inr k) (.int v) .nil) hf b hb
/-! ### list(range(..)) -/
def rngD (a : Int) (n : Nat) : List PyData := (List.range n).map fun (i : Nat) => PyData.int (a + (i : Int))
theorem rng_is {K : PySem.W.Frag} {F : Hp} (a b : Int) : IsDs K F (rgV a b) (rngD a (b - a).toNat) := by
  unfold rgV rngD
  generalize (b - a).toNat = n
  induction (List.range n) with
  | nil => exact .nil
  | cons i r ih => exact .cons (.int _) ih
def dLRg1 (mu : Bool) (ta : AE) : AE := fun E m Q => ta E m fun u m1 => match u with
  | .v (.int n) => RgOk 0 n ∧ nw mu (rngD 0 (n - 0).toNat) m1 Q
  | _ => False
def dLRg2 (mu : Bool) (ta tb : AE) : AE := fun E m Q => ta E m fun u m1 => tb E m1 fun w m2 => match u, w with
  | .v (.int a), .v (.int b) => RgOk a b ∧ nw mu (rngD a (b - a).toNat) m2 Q
  | _, _ => False
theorem de_listRg1 (mu : Bool) {p p2 : Pos} {pos2 : Pos} {a : Expr} {f : AE} (hc : X.calm = true) (hm : X.mg "list" = none) (hm2 : X.mg "range" = none) (ha : DE X a f) (hg : Gl X "list" := by rfl) (hg2 : Gl X "range" := by rfl)
    (na : starEach [a] X.env = (false, eval a X.env) :: starEach [] X.env := by rfl) (nb : starEach [.Call (.Name "range" p2) [a] [] pos2] X.env = (false, eval (.Call (.Name "range" p2) [a] [] pos2) X.env) :: starEach [] X.env := by rfl) :
    DE X (.Call (.Name "list" p) [.Call (.Name "range" p2) [a] [] pos2] [] pos) (dLRg1 mu f) :=
  pe_imp (pe_listRg hc hg hm (prg_1 hg2 hm2 ha na) nb) fun σ H Q ⟨F, ro, E, m, Qa, cm, ce, hf, p⟩ =>
    ⟨F, ro, E, m, _, cm, ce, hf, fun F1 ro1 H1 u v m1 g1 c1 i1 h1 => by
      revert h1
      split
      · rename_i n
        intro h1
        cases i1
        exact ⟨n, rfl, h1.1, (p.at g1).nw c1 mu (rng_is 0 n) h1.2⟩
      · exact fun h => h.elim⟩
theorem de_listRg2 (mu : Bool) {p p2 : Pos} {pos2 : Pos} {a b : Expr} {f g : AE} (hc : X.calm = true) (hm : X.mg "list" = none) (hm2 : X.mg "range" = none) (ha : DE X a f) (hb : DE X b g) (hg : Gl X "list" := by rfl) (hg2 : Gl X "range" := by rfl)
    (na : starEach [a, b] X.env = (false, eval a X.env) :: starEach [b] X.env := by rfl) (na2 : starEach [b] X.env = (false, eval b X.env) :: starEach [] X.env := by rfl) (hp : (backTo pos2 (starEach [b] X.env)).any (·.1) = false := by rfl) (nb : starEach [.Call (.Name "range" p2) [a, b] [] pos2] X.env = (false, eval (.Call (.Name "range" p2) [a, b] [] pos2) X.env) :: starEach [] X.env := by rfl) :
    DE X (.Call (.Name "list" p) [.Call (.Name "range" p2) [a, b] [] pos2] [] pos) (dLRg2 mu f g) :=
  pe_imp (pe_listRg hc hg hm (prg_2 hg2 hm2 ha hb na na2 hp) nb) fun σ H Q ⟨F, ro, E, m, Qa, cm, ce, hf, p⟩ =>
    ⟨F, ro, E, m, _, cm, ce, hf, fun F1 ro1 H1 u v m1 g1 c1 i1 h1 => ⟨F1, ro1, E, m1, _, c1, ce.mono g1, h1, fun F2 ro2 H2 w x m2 g2 c2 i2 h2 => by
      revert h2
      split
      · rename_i n k
        intro h2
        cases i1.mono g2
        cases i2
        exact ⟨_, _, rfl, rfl, h2.1, (p.at (g1.trans g2)).nw c2 mu (rng_is _ _) h2.2⟩
      · exact fun h => h.elim⟩⟩
/-! ### extend, index, count -/
def aExtend : U → List U → Sto → QA → Prop := fun o us m Q => match o, us with
  | .r k, [u] => (match m[k]?, asL m u with
    | some (.lst l), some l2 => l.length + l2.length ≤ sizeLine ∧ Q (.v .none) (m.set k (.lst (l ++ l2)))
    | _, _ => False)
  | _, _ => False
theorem sim_extend {K : PySem.W.Frag} : SimM K rExtend aExtend := by
  intro F ro H m o x us vs Q Qa c io iu h p
  unfold aExtend at h
  split at h
  · split at h
    · rename_i l l2 el el2
      obtain ⟨a, xs, rfl, h1, h2, hd⟩ := cell_of c io el
      obtain ⟨v, rfl, i1⟩ := iu1 iu
      obtain ⟨b, zs, rfl, hb, hd2⟩ := asL_own c i1 el2
      exact ⟨a, b, xs, zs, rfl, rfl, h2, hb, by rw [hd.length, hd2.length]; exact h.1, p.put c h1 el (hd.append hd2) .non h.2⟩
    · exact h.elim
  · exact h.elim
def aIndex : U → List U → Sto → QA → Prop := fun o us m Q => match asQ m o, us with
  | some l, [.v d] => flatD d = true ∧ l.all flatD = true ∧ (match l.findIdx? fun y => PyData.eqv y d with
    | some j => Q (.v (.int (j : Nat))) m
    | none => False)
  | _, _ => False
theorem sim_index {K : PySem.W.Frag} : SimM K (rIndex K) aIndex := by
  intro F ro H m o x us vs Q Qa c io iu h p
  unfold aIndex at h
  split at h
  · rename_i l d el
    obtain ⟨f1, f2, h⟩ := h
    split at h
    · rename_i j hj
      obtain ⟨a, xs, rfl, r, hd⟩ := asQ_sq c io el
      obtain ⟨v, rfl, i1⟩ := iu1 iu
      obtain ⟨hlt, hp, hno⟩ := List.findIdx?_eq_some_iff_getElem.mp hj
      obtain ⟨z, ez, iz⟩ := hd.get (List.getElem?_eq_getElem hlt)
      have fl : ∀ (j : Nat) (hj : j < l.length), flatD l[j] = true := fun j hj => List.all_eq_true.mp f2 _ (List.getElem_mem hj)
      refine ⟨a, xs, v, j, z, rfl, rfl, r, flat_of i1 f1, flat_all hd f2, ez, ?_, fun k z' hk ez' => ?_, p.god c (.int _) h⟩
      · rw [eqv_flat iz i1 (fl j hlt) f1]; exact hp
      · have hk2 : k < l.length := by omega
        obtain ⟨z2, e2, i2⟩ := hd.get (List.getElem?_eq_getElem hk2)
        rw [ez'] at e2
        cases e2
        rw [eqv_flat i2 i1 (fl k hk2) f1]
        simpa using hno k hk
    · exact h.elim
  · exact h.elim
def aCount : U → List U → Sto → QA → Prop := fun o us m Q => match asQ m o, us with
  | some l, [.v (.int k)] => (match intsOf l with
    | some ns => Q (.v (.int (ns.count k : Nat))) m
    | none => False)
  | _, _ => False
theorem sim_count {K : PySem.W.Frag} : SimM K (rCntI K) aCount := by
  intro F ro H m o x us vs Q Qa c io iu h p
  unfold aCount at h
  split at h
  · rename_i l k el
    split at h
    · rename_i ns en
      obtain ⟨a, xs, rfl, r, hd⟩ := asQ_sq c io el
      obtain ⟨v, rfl, i1⟩ := iu1 iu
      cases i1
      rw [intsOf_eq en] at hd
      rw [hd.ints] at r
      exact ⟨a, ns, k, rfl, rfl, r, p.god c (.int _) h⟩
    · exact h.elim
  · exact h.elim
end
end Z
/-! Y2: dicts: d[k], k in d, d[k] = v, {k: v} as a cell. -/
namespace Z
open PySem PySem.Spec PyProof.Rows L2
def keyOf : PyData → Option Key
  | .int i => some (.inl i)
  | .str x => some (.inr x)
  | _ => none
theorem keyOf_keyD (k : Key) : keyOf (keyD k) = some k := by cases k <;> rfl
/-- the value at a key -/
def lookD (l : List (PyData × PyData)) (d : PyData) : Option PyData := (l.find? fun p => decide (keyOf p.1 = keyOf d)).map (·.2)
/-- in its place, or at the end -/
def putD (l : List (PyData × PyData)) (d v : PyData) : List (PyData × PyData) :=
  if (l.any fun p => decide (keyOf p.1 = keyOf d)) = true then l.map (fun p => if keyOf p.1 = keyOf d then (p.1, v) else p) else l ++ [(d, v)]
theorem key_of {K : PySem.W.Frag} {F : Hp} {v : V} {d : PyData} (h : IsD K F v d) {k : Key} (e : keyOf d = some k) : v = kV k ∧ d = keyD k := by
  cases h <;> simp [keyOf] at e <;> subst e <;> exact ⟨rfl, rfl⟩
section
variable {K : PySem.W.Frag} {F : Hp}
theorem key_dec (j k : Key) : decide (keyOf (keyD j) = keyOf (keyD k)) = decide (j = k) := by
  rw [keyOf_keyD, keyOf_keyD, Bool.eq_iff_iff]
  simp
theorem IsDk.look : ∀ {kvs : List (Key × V)} {l : List (PyData × PyData)} {k : Key}, IsDk K F kvs l →
    (match lookD l (keyD k) with
      | some d => ∃ v, valV kvs k = some v ∧ IsD K F v d
      | none => valV kvs k = none)
  | _, _, k, .nil => rfl
  | _, _, k, .cons (k := j) (v := w) (d := d) (vs := vs) (ds := ds) h t => by
    by_cases e : j = k
    · have e1 : lookD ((keyD j, d) :: ds) (keyD k) = some d := by
        unfold lookD
        rw [List.find?_cons_of_pos (by rw [key_dec]; simpa using e)]
        rfl
      rw [e1]
      exact ⟨w, valV_pos (p := (j, w)) e, h⟩
    · have e1 : lookD ((keyD j, d) :: ds) (keyD k) = lookD ds (keyD k) := by
        unfold lookD
        rw [List.find?_cons_of_neg (by rw [key_dec]; simpa using e)]
      rw [e1, valV_neg (p := (j, w)) e]
      exact IsDk.look t
theorem IsDk.length : ∀ {kvs : List (Key × V)} {l : List (PyData × PyData)}, IsDk K F kvs l → kvs.length = l.length
  | _, _, .nil => rfl
  | _, _, .cons _ t => congrArg (· + 1) (IsDk.length t)
theorem IsDk.any (k : Key) : ∀ {kvs : List (Key × V)} {l : List (PyData × PyData)}, IsDk K F kvs l → (l.any fun p => decide (keyOf p.1 = keyOf (keyD k))) = kvs.any fun kv => decide (kv.1 = k)
  | _, _, .nil => rfl
  | _, _, .cons (k := j) _ t => by rw [List.any_cons, List.any_cons, IsDk.any k t, key_dec]
theorem IsDk.snoc {k : Key} {v : V} {d : PyData} (h : IsD K F v d) : ∀ {kvs : List (Key × V)} {l : List (PyData × PyData)}, IsDk K F kvs l → IsDk K F (kvs ++ [(k, v)]) (l ++ [(keyD k, d)])
  | _, _, .nil => .cons h .nil
  | _, _, .cons a t => .cons a (IsDk.snoc h t)
theorem IsDk.swap {k : Key} {v : V} {d : PyData} (h : IsD K F v d) : ∀ {kvs : List (Key × V)} {l : List (PyData × PyData)}, IsDk K F kvs l → IsDk K F (kvs.map fun kv => if kv.1 = k then (kv.1, v) else kv) (l.map fun p => if keyOf p.1 = keyOf (keyD k) then (p.1, d) else p)
  | _, _, .nil => .nil
  | _, _, .cons (k := j) (v := w) (d := e) a t => by
    rw [List.map_cons, List.map_cons]
    by_cases q : j = k
    · rw [if_pos q, if_pos (by rw [q])]
      exact .cons h (IsDk.swap h t)
    · rw [if_neg q, if_neg (by rw [keyOf_keyD, keyOf_keyD]; simpa using q)]
      exact .cons a (IsDk.swap h t)
theorem IsDk.put {k : Key} {v : V} {d : PyData} (h : IsD K F v d) {kvs : List (Key × V)} {l : List (PyData × PyData)} (t : IsDk K F kvs l) : IsDk K F (putK kvs k v) (putD l (keyD k) d) := by
  unfold putK putD
  rw [IsDk.any k t]
  split
  · exact IsDk.swap h t
  · exact IsDk.snoc h t
end
/-- the entries of a value -/
def asK (m : Sto) : U → Option (List (PyData × PyData))
  | .v (.dict l) => some l
  | .r k => match m[k]? with
    | some (.dct l) => some l
    | _ => none
  | _ => none
theorem asK_own {K : PySem.W.Frag} {F H : Hp} {ro : List Addr} {m : Sto} (c : ConM K F ro H m) {u : U} {v : V} (h : IsU K F ro u v) {l : List (PyData × PyData)} (e : asK m u = some l) : ∃ a kvs, v = .ref a ∧ H a = some (.dK kvs) ∧ IsDk K F kvs l := by
  cases u with
  | v d =>
    cases d <;> simp [asK] at e
    subst e
    cases h with
    | dct h1 h2 => exact ⟨_, _, rfl, c.ex _ _ h1, h2⟩
  | r k =>
    obtain ⟨a, h1, h2⟩ := h
    simp only [asK] at e
    cases q : m[k]? with
    | none => rw [q] at e; cases e
    | some x =>
      rw [q] at e
      cases x with
      | dead => cases e
      | lst l' => cases e
      | dct l' =>
        cases e
        obtain ⟨_, xs, hx, hd⟩ : CellOk K F H a (.dct l) := c.cell k a _ h1 q
        exact ⟨a, xs, h2, hx, hd⟩
  | s ns => simp [asK] at e
  | o t => simp [asK] at e
def dGet (td ty : AE) : AE := fun E m Q => td E m fun u m1 => ty E m1 fun w m2 => match asK m2 u, w with
  | some l, .v key => (match keyOf key, lookD l key with
    | some _, some d => Q (.v d) m2
    | _, _ => False)
  | _, _ => False
def dIn (neg : Bool) (ty td : AE) : AE := fun E m Q => ty E m fun w m1 => td E m1 fun u m2 => match asK m2 u, w with
  | some l, .v key => (match keyOf key with
    | some _ => Q (.v (.bool (if neg then !(lookD l key).isSome else (lookD l key).isSome))) m2
    | none => False)
  | _, _ => False
def dPut (tv td ty : AE) : AS := fun D E m => tv E m fun x m1 => td E m1 fun u m2 => ty E m2 fun w m3 => match x, u, w with
  | .v d, .r k, .v key => (match m3[k]?, keyOf key with
    | some (.dct l), some _ => l.length < sizeLine ∧ D.nx E (m3.set k (.dct (putD l key d)))
    | _, _ => False)
  | _, _, _ => False
section
variable {X : Cx} {o i e : Expr} {fo fi fe : AE} {pos pos' : Pos}
theorem dget_of {K : PySem.W.Frag} {F H : Hp} {ro : List Addr} {m : Sto} (c : ConM K F ro H m) {u : U} {v y : V} {l : List (PyData × PyData)} {key : PyData} {k : Key} (h : IsU K F ro u v) (el : asK m u = some l) (hy : IsD K F y key) (ek : keyOf key = some k) :
    ∃ a kvs, v = .ref a ∧ IsDk K F kvs l ∧ y = kV k ∧ key = keyD k ∧ DGet H a y (valV kvs k) := by
  obtain ⟨a, kvs, rfl, hx, hd⟩ := asK_own c h el
  obtain ⟨e1, e2⟩ := key_of hy ek
  exact ⟨a, kvs, rfl, hd, e1, e2, .inl ⟨kvs, k, .inl hx, e1, rfl⟩⟩
theorem de_get (hu : X.A.units + 1 < cLine) (ho : DE X o fo) (hi : DE X i fi) (hs : NoSl i := by intro _ _; rfl) : DE X (.Subscript o i pos) (dGet fo fi) :=
  pe_imp (pe_dget hu ho hi hs) fun σ H Q ⟨F, ro, E, m, Qa, cm, ce, hf, p⟩ =>
    ⟨F, ro, E, m, _, cm, ce, hf, fun F1 ro1 H1 u v m1 g1 c1 i1 h1 => ⟨F1, ro1, E, m1, _, c1, ce.mono g1, h1, fun F2 ro2 H2 w y m2 g2 c2 i2 h2 => by
      revert h2
      split
      · rename_i l key el
        split
        · rename_i k d ek ed
          intro h2
          obtain ⟨a, kvs, rfl, hd, e1, e2, hg⟩ := dget_of c2 (i1.mono g2) el i2 ek
          have hl := IsDk.look (k := k) hd
          rw [← e2, ed] at hl
          obtain ⟨v, ev, iv⟩ := hl
          rw [ev] at hg
          exact ⟨a, v, rfl, hg, (p.at (g1.trans g2)).god c2 iv h2⟩
        · exact fun h => h.elim
      · exact fun h => h.elim⟩⟩
theorem isSome_look {K : PySem.W.Frag} {F : Hp} {kvs : List (Key × V)} {l : List (PyData × PyData)} {k : Key} (h : IsDk K F kvs l) : (valV kvs k).isSome = (lookD l (keyD k)).isSome := by
  have hl := IsDk.look (k := k) h
  cases e : lookD l (keyD k) with
  | none => rw [e] at hl; rw [hl]; rfl
  | some d => rw [e] at hl; obtain ⟨v, ev, _⟩ := hl; rw [ev]; rfl
theorem din_sim {K : PySem.W.Frag} (σ : L2.St) (H : Hp) (Q : VK) (h : cE K (dIn false fi fo) σ H Q) : tDIn (cE K fi) (cE K fo) σ H Q := by
  obtain ⟨F, ro, E, m, Qa, cm, ce, hf, p⟩ := h
  exact ⟨F, ro, E, m, _, cm, ce, hf, fun F1 ro1 H1 w y m1 g1 c1 i1 h1 => ⟨F1, ro1, E, m1, _, c1, ce.mono g1, h1, fun F2 ro2 H2 u v m2 g2 c2 i2 h2 => by
      revert h2
      split
      · rename_i l key el
        split
        · rename_i k ek
          intro h2
          obtain ⟨a, kvs, rfl, hd, e1, e2, hg⟩ := dget_of c2 i2 el (i1.mono g2) ek
          refine ⟨a, _, rfl, hg, ?_⟩
          rw [isSome_look hd, ← e2]
          exact (p.at (g1.trans g2)).god c2 (.bl _) h2
        · exact fun h => h.elim
      · exact fun h => h.elim⟩⟩
theorem dnin_sim {K : PySem.W.Frag} (σ : L2.St) (H : Hp) (Q : VK) (h : cE K (dIn true fi fo) σ H Q) : tDNotIn (cE K fi) (cE K fo) σ H Q := by
  obtain ⟨F, ro, E, m, Qa, cm, ce, hf, p⟩ := h
  exact ⟨F, ro, E, m, _, cm, ce, hf, fun F1 ro1 H1 w y m1 g1 c1 i1 h1 => ⟨F1, ro1, E, m1, _, c1, ce.mono g1, h1, fun F2 ro2 H2 u v m2 g2 c2 i2 h2 => by
      revert h2
      split
      · rename_i l key el
        split
        · rename_i k ek
          intro h2
          obtain ⟨a, kvs, rfl, hd, e1, e2, hg⟩ := dget_of c2 i2 el (i1.mono g2) ek
          refine ⟨a, _, rfl, hg, ?_⟩
          rw [isSome_look hd, ← e2]
          exact (p.at (g1.trans g2)).god c2 (.bl _) h2
        · exact fun h => h.elim
      · exact fun h => h.elim⟩⟩
theorem de_din (hu : X.A.units + 1 < cLine) (hi : DE X i fi) (ho : DE X o fo) (h1 : behindInMarks .In o = false := by rfl) : DE X (.Compare i [.In] [o] pos) (dIn false fi fo) := pe_imp (pe_cmp (pc_din hu hi ho) h1) din_sim
theorem de_dnotin (hu : X.A.units + 1 < cLine) (hi : DE X i fi) (ho : DE X o fo) (h1 : behindInMarks .NotIn o = false := by rfl) : DE X (.Compare i [.NotIn] [o] pos) (dIn true fi fo) := pe_imp (pe_cmp (pc_dnotin hu hi ho) h1) dnin_sim
theorem dt_din (hu : X.A.units + 1 < cLine) (hi : DE X i fi) (ho : DE X o fo) (h1 : behindInMarks .In o = false := by rfl) : DT X (.Compare i [.In] [o] pos) (dB (dIn false fi fo)) := pt_imp (pt_cmp (pc_din hu hi ho) h1) fun σ H Q h => din_sim σ H _ (dB_sim σ H Q h)
theorem dt_dnotin (hu : X.A.units + 1 < cLine) (hi : DE X i fi) (ho : DE X o fo) (h1 : behindInMarks .NotIn o = false := by rfl) : DT X (.Compare i [.NotIn] [o] pos) (dB (dIn true fi fo)) := pt_imp (pt_cmp (pc_dnotin hu hi ho) h1) fun σ H Q h => dnin_sim σ H _ (dB_sim σ H Q h)
theorem ds_dput (hu : X.A.units + 1 < cLine) (he : DE X e fe) (ho : DE X o fo) (hi : DE X i fi) (hs : swapsWith e (some (.Subscript o i pos')) pos.line X.env = pure false := by rfl) : DS X (.Assign [.Subscript o i pos'] e pos) (dPut fe fo fi) :=
  ps_imp (ps_dput hu ho hi he hs) fun D σ H ⟨F, ro, E, m, Da, c, ce, hf, p⟩ =>
    ⟨F, ro, E, m, _, c, ce, hf, fun F1 ro1 H1 x vx m1 g1 c1 i1 h1 => ⟨F1, ro1, E, m1, _, c1, ce.mono g1, h1, fun F2 ro2 H2 u v m2 g2 c2 i2 h2 => ⟨F2, ro2, E, m2, _, c2, ce.mono (g1.trans g2), h2, fun F3 ro3 H3 w y m3 g3 c3 i3 h3 => by
      revert h3
      split
      · rename_i d k key
        split
        · rename_i l kk el ek
          intro h3
          obtain ⟨a, ha, ev⟩ := i2.mono g3
          subst ev
          obtain ⟨hF, kvs, hx, hd⟩ : CellOk X.K F3 H3 a (.dct l) := c3.cell k a _ ha el
          obtain ⟨e1, e2⟩ := key_of i3 ek
          have hv : IsD X.K F3 vx d := i1.mono (g2.trans g3)
          obtain ⟨c4, g4⟩ := c3.dctSet ha el (hd.put (k := kk) hv)
          subst e2
          exact ⟨a, _, rfl, .inl ⟨kvs, kk, hx, e1, by rw [hd.length]; exact h3.1, rfl⟩, p.nx _ _ _ σ E _ (g1.trans (g2.trans (g3.trans g4))) c4 (ce.mono (g1.trans (g2.trans (g3.trans g4)))) h3.2⟩
        · exact fun h => h.elim
      · exact fun h => h.elim⟩⟩⟩
end
/-! ### {} and {k: v} as cells -/
section
variable {X : Cx} {pos : Pos}
def dDctM0 : AE := fun _ m Q => Q (.r m.length) (m ++ [.dct []])
theorem de_dctM0 : DE X (.Dict [] [] pos) dDctM0 := pe_imp pe_dnewK fun σ H Q ⟨F, ro, E, m, Qa, cm, ce, hf, p⟩ => fun b hb => by
  obtain ⟨c1, g1⟩ := cm.dctNew hb (xs := []) (l := []) .nil
  exact p F (ro ++ [b]) _ (.r m.length) (.ref b) _ g1 c1 ⟨b, by rw [← cm.len, List.getElem?_append_right (Nat.le_refl _)]; simp, rfl⟩ hf
def dDctM1 (tk tv : AE) : AE := fun E m Q => tk E m fun w m1 => tv E m1 fun x m2 => match w, x with
  | .v key, .v d => (match keyOf key with
    | some _ => Q (.r m2.length) (m2 ++ [.dct [(key, d)]])
    | none => False)
  | _, _ => False
/-- an object that is neither known nor a cell -/
theorem ConM.loose {K : PySem.W.Frag} {F H : Hp} {ro : List Addr} {m : Sto} (c : ConM K F ro H m) {D : Addr} (hF : F D = none) (hr : D ∉ ro) (o : HO) : ConM K F ro (upd H D o) m := by
  refine ⟨fun b x z => ?_, c.len, c.nd, fun k a x z1 z2 => ?_⟩
  · have ne : b ≠ D := fun e => by rw [e, hF] at z; cases z
    rw [upd_ne ne]; exact c.ex b x z
  · have ne : a ≠ D := fun z => hr (z ▸ List.mem_of_getElem? z1)
    exact (c.cell k a x z1 z2).grow (Same.refl F) (fun z => z) (upd_ne ne)
theorem de_dctM1 {ek ev : Expr} {fk fv : AE} (hk : DE X ek fk) (hv : DE X ev fv) : DE X (.Dict [some ek] [ev] pos) (dDctM1 fk fv) :=
  pe_imp (pe_disp (pps_cons hk hv pps_nil) rfl rfl (by simp) (by simp)) fun σ H Q ⟨F, ro, E, m, Qa, cm, ce, hf, p⟩ => fun D hD => by
    obtain ⟨hFD, hrD⟩ := cm.new hD
    have gB : Gro F ro H F ro (upd H D (.dK [])) := ⟨Same.refl _, ⟨[], by simp, fun _ h => nomatch h⟩, fun a x q1 q2 => ⟨by rw [upd_ne (ne_of_none q1 hD)]; exact q1, rfl⟩, fun a q1 => by
      by_cases z : a = D
      · rw [z, upd_same]; simp
      · rw [upd_ne z]; exact q1⟩
    refine ⟨F, ro, E, m, _, cm.loose hFD hrD _, ce, hf, fun F1 ro1 H1 w y m1 g1 c1 i1 h1 => ⟨F1, ro1, E, m1, _, c1, ce.mono g1, h1, fun F2 ro2 H2 x z m2 g2 c2 i2 h2 => ?_⟩⟩
    revert h2
    split
    · rename_i key d
      split
      · rename_i k ek
        intro h2
        have g12 := g1.trans g2
        obtain ⟨q1, q2⟩ := g12.fr D _ upd_same hrD
        have q3 : D ∉ ro2 := fun hm => by
          obtain ⟨t, et, nt⟩ := g12.more
          rw [et] at hm
          rcases List.mem_append.mp hm with z | z
          · exact hrD z
          · have := nt D z
            rw [upd_same] at this
            cases this
        have q4 : F2 D = none := q2.trans hFD
        obtain ⟨e1, e2⟩ := key_of (i1.mono g2) ek
        have iv : IsD X.K F2 z d := i2
        refine ⟨q1, [(k, z)], by rw [e1]; rfl, by simp, ?_⟩
        have c3 := (c2.loose q4 q3 (.dK [(k, z)])).dctAdopt (l := [(key, d)]) upd_same q4 q3 (by rw [e2]; exact .cons iv .nil)
        have g3 : Gro F ro H F2 (ro2 ++ [D]) (upd H2 D (.dK [(k, z)])) := by
          obtain ⟨t, et, nt⟩ := g12.more
          refine ⟨g12.ex, ⟨t ++ [D], by rw [et, List.append_assoc], fun a ha => ?_⟩, fun a x z1 z2 => ?_, fun a z1 => ?_⟩
          · rcases List.mem_append.mp ha with ha | ha
            · have := nt a ha
              by_cases ne : a = D
              · rw [ne]; exact hD
              · rw [upd_ne ne] at this; exact this
            · have : a = D := by simpa using ha
              rw [this]; exact hD
          · have ne : a ≠ D := ne_of_none z1 hD
            obtain ⟨w1, w2⟩ := g12.fr a x (by rw [upd_ne ne]; exact z1) z2
            exact ⟨by rw [upd_ne ne]; exact w1, w2⟩
          · by_cases ne : a = D
            · rw [ne, upd_same]; simp
            · rw [upd_ne ne]
              exact g12.st a (by rw [upd_ne ne]; exact z1)
        exact p F2 (ro2 ++ [D]) _ (.r m2.length) (.ref D) _ g3 c3 ⟨D, by rw [← c2.len, List.getElem?_append_right (Nat.le_refl _)]; simp, rfl⟩ h2
      · exact fun h => h.elim
    · exact fun h => h.elim
end
/-! ### sorted, ints, any number of them -/
def aSortedI (mu : Bool) : R1A := fun us m Q => match us with
  | [u] => (match asI m u with
    | some l => ∀ l' : List Int, l'.Perm l → l'.Pairwise (· ≤ ·) → nw mu (l'.map .int) m Q
    | none => False)
  | _ => False
theorem sim_sortedI {K : PySem.W.Frag} (mu : Bool) : SimC K (rSortedI K) (aSortedI mu) := by
  intro F ro H m us vs Q Qa c iu h p
  unfold aSortedI at h
  split at h
  · obtain ⟨v, rfl, i1⟩ := iu1 iu
    split at h
    · rename_i l el
      obtain ⟨a, rfl, hs⟩ := asI_sq c i1 el
      exact ⟨a, l, rfl, hs, fun l' b h1 h2 hb => p.nw c mu (IsDs.of_ints l') (h l' h1 h2) b hb⟩
    · exact h.elim
  · exact h.elim
/-! ### xs += ys -/
def aExt2 : R2A := fun a b m Q => match a with
  | .r k => (match m[k]?, asL m b with
    | some (.lst l), some l2 => l.length + l2.length ≤ sizeLine ∧ Q (.r k) (m.set k (.lst (l ++ l2)))
    | _, _ => False)
  | _ => False
theorem sim_ext2 {K : PySem.W.Frag} : Sim2 K rExt2 aExt2 := by
  intro F ro H m a b v w Q Qa c ia ib h p
  unfold aExt2 at h
  split at h
  · rename_i k
    split at h
    · rename_i l l2 el el2
      obtain ⟨x, xs, rfl, h1, h2, hd⟩ := cell_of c ia el
      obtain ⟨y, zs, rfl, hb, hd2⟩ := asL_own c ib el2
      obtain ⟨c1, g1⟩ := c.cellSet h1 el (hd.append hd2)
      exact ⟨x, y, xs, zs, rfl, rfl, h2, hb, by rw [hd.length, hd2.length]; exact h.1, (p.at g1).go (u := .r k) c1 ⟨x, h1, rfl⟩ h.2⟩
    · exact h.elim
  · exact h.elim
end Z
/-! Y3: repr of any data, dicts too. -/
namespace Z
open PySem PySem.Spec PyProof.Rows L2
section
variable {X : Cx} {pins : List (Addr × Obj)} {σ : L2.St} {H : Hp} {s : Shared}
/-- a value's text is known wherever the heap has grown -/
def Rk (X : Cx) (h : Heap) (u : Value) (d : PyData) : Prop := ∃ as bs, Reads h u d as ∧ ReadAtMost h d.depth bs ∧ ReprK X.prog X.w bs h d.depth u d.shown
def Rks (X : Cx) (h : Heap) (us : List Value) (ds : List PyData) : Prop := ∃ as bs, ReadsAll h us ds as ∧ ReadAtMost h (PyData.depthAll ds) bs ∧ ReprAllK X.prog X.w bs h (PyData.depthAll ds) us (PyData.shownAll ds)
theorem Rk.of_is {h : Heap} {u : Value} {d : PyData} {as : List Addr} (r : Reads h u d as) (k : ReprIs X.prog X.w u d.shown) : Rk X h u d := ⟨as, [], r, fun _ z => (nomatch z), ReprK.of_is k _ _ _⟩
theorem key_rk {h : Heap} {k : Key} {u : Value} (e : keyIs k u = true) (hs : (keyD k).showable = true) (hz : (keyD k).shown.length ≤ sizeLine) : Rk X h u (keyD k) := by
  rcases keyIs_shape e with ⟨i, t, rfl, rfl⟩ | ⟨x, t, rfl, rfl⟩
  · refine Rk.of_is (d := .int i) (.int i t) ?_
    have q := ReprIs.int (prog := X.prog) (w := X.w) t (show i.natAbs.log2 < 1920 by simpa [keyD, PyData.showable] using hs)
    simpa only [PyData.shown] using q
  · refine Rk.of_is (d := .str x) (.str x t) ?_
    have q := ReprIs.str (prog := X.prog) (w := X.w) x t (by simpa only [keyD, PyData.shown] using hz)
    simpa only [PyData.shown] using q
theorem Rks.nil {h : Heap} : Rks X h [] [] := ⟨[], [], .nil, fun _ z => (nomatch z), by simp only [PyData.shownAll]; exact .nil⟩
theorem Rks.cons {h : Heap} {u : Value} {us : List Value} {d : PyData} {ds : List PyData} (a : Rk X h u d) (b : Rks X h us ds) : Rks X h (u :: us) (d :: ds) := by
  obtain ⟨a1, b1, r1, m1, k1⟩ := a
  obtain ⟨a2, b2, r2, m2, k2⟩ := b
  have l1 : d.depth ≤ PyData.depthAll (d :: ds) := by simp only [PyData.depthAll]; exact Nat.le_max_left _ _
  have l2 : PyData.depthAll ds ≤ PyData.depthAll (d :: ds) := by simp only [PyData.depthAll]; exact Nat.le_max_right _ _
  refine ⟨a1 ++ a2, b1 ++ b2, .cons r1 r2, (m1.mono l1).append (m2.mono l2), ?_⟩
  simp only [PyData.shownAll]
  refine .cons ((k1.more fun z hz => List.mem_append.mpr (.inl hz)).level_le l1) (k2.more_le (fun z hz => List.mem_append.mpr (.inr hz)) l2)
theorem all_small {ds : List PyData} {n : Nat} {f : List Str → Str} (g : ∀ {ts : List Str} {t : Str}, t ∈ ts → t.length ≤ (f ts).length) (hz : (f (PyData.shownAll ds)).length ≤ n) : ∀ t ∈ PyData.shownAll ds, t.length ≤ n := fun _ ht => Nat.le_trans (g ht) hz
theorem Rk.lst {h : Heap} {a : Addr} {o : Obj} {n : Nat} {us : List Value} {ds : List PyData} (h1 : h.get? a = some o) (h2 : o.cls = .type "list") (h3 : o.data = .seq us.toArray n) (b : Rks X h us ds) : Rk X h (.ref a) (.list ds) := by
  obtain ⟨a1, b1, r1, m1, k1⟩ := b
  have rr : Reads h (.ref a) (.list ds) (a :: a1) := .list h1 h2 h3 r1
  have dd : (PyData.list ds).depth = PyData.depthAll ds + 1 := by simp only [PyData.depth]
  have out : a ∉ b1 := not_mem_of_deeper rr (by omega) m1
  refine ⟨_, a :: b1, rr, ReadAtMost.cons rr (by omega) m1, ?_⟩
  rw [dd]
  simp only [PyData.shown]
  cases us with
  | nil =>
    cases r1
    simp only [PyData.shownAll, listText_nil]
    exact ReprK.listEmpty h1 h2 h3
  | cons x l => exact ReprK.list h1 h2 h3 out (by simpa using k1.length_eq) fun i y e => k1.item i y (by simpa using e)
theorem Rk.tup {h : Heap} {a : Addr} {o : Obj} {n : Nat} {us : List Value} {ds : List PyData} (h1 : h.get? a = some o) (h2 : o.cls = .type "tuple") (h3 : o.data = .seq us.toArray n) (b : Rks X h us ds) : Rk X h (.ref a) (.tuple ds) := by
  obtain ⟨a1, b1, r1, m1, k1⟩ := b
  have rr : Reads h (.ref a) (.tuple ds) a1 := .tuple h1 h2 h3 r1
  have dd : (PyData.tuple ds).depth = PyData.depthAll ds + 1 := by simp only [PyData.depth]
  have out : a ∉ b1 := not_mem_of_deeper rr (by omega) m1
  refine ⟨_, a :: b1, rr, ReadAtMost.cons rr (by omega) m1, ?_⟩
  rw [dd]
  simp only [PyData.shown]
  exact ReprK.tuple h1 h2 h3 out k1
/-- the entries of a dict -/
def Rkd (X : Cx) (h : Heap) (es : List DictEntry) (ds : List (PyData × PyData)) : Prop := Rks X h (es.map (·.key)) (ds.map (·.1)) ∧ Rks X h (es.map (·.val)) (ds.map (·.2))
theorem Rkd.ents {h : Heap} {es : List DictEntry} {ds : List (PyData × PyData)} (b : Rkd X h es ds) : ∃ a1 a2 bs, ReadsAll h (es.map (·.key)) (ds.map (·.1)) a1 ∧ ReadsAll h (es.map (·.val)) (ds.map (·.2)) a2 ∧ ReadAtMost h (PyData.depthKv ds) bs ∧ ReprEntriesK X.prog X.w bs h (PyData.depthKv ds) es (PyData.shownKv ds) := by
  obtain ⟨⟨a1, b1, r1, m1, k1⟩, ⟨a2, b2, r2, m2, k2⟩⟩ := b
  refine ⟨a1, a2, b1 ++ b2, r1, r2, (m1.mono (PyData.depthAll_keys_le ds)).append (m2.mono (PyData.depthAll_vals_le ds)), ?_⟩
  rw [PyData.shownKv_eq]
  exact ReprEntriesK.of_two es _ _ (k1.more_le (fun z hz => List.mem_append.mpr (.inl hz)) (PyData.depthAll_keys_le ds)) (k2.more_le (fun z hz => List.mem_append.mpr (.inr hz)) (PyData.depthAll_vals_le ds))
theorem Rk.dct {h : Heap} {a : Addr} {o : Obj} {n : Nat} {es : Array DictEntry} {ds : List (PyData × PyData)} (h1 : h.get? a = some o) (h2 : o.cls = .type "dict") (h3 : o.data = .dict es n) (hm : (a == sysModules) = false) (b : Rkd X h es.toList ds) : Rk X h (.ref a) (.dict ds) := by
  obtain ⟨a1, a2, bs, r1, r2, m, k⟩ := b.ents
  have rr : Reads h (.ref a) (.dict ds) (a :: a1 ++ a2) := .dict h1 h2 h3 r1 r2
  have dd : (PyData.dict ds).depth = PyData.depthKv ds + 1 := by simp only [PyData.depth]
  have out : a ∉ bs := not_mem_of_deeper rr (by omega) m
  refine ⟨_, a :: bs, rr, ReadAtMost.cons rr (by omega) m, ?_⟩
  rw [dd]
  simp only [PyData.shown]
  exact ReprK.dict h1 h2 h3 hm out k
theorem shown_kv {ds : List (PyData × PyData)} {n : Nat} (hz : (dictText (PyData.shownKv ds)).length ≤ n) : ∀ p ∈ PyData.shownKv ds, p.length ≤ n := fun _ hp => Nat.le_trans (dictText_mem_le hp) hz
mutual
theorem IsD.rk (I : Inv X pins σ H s) : ∀ {v : V} {d : PyData} {u : Value}, IsD X.K H v d → RelV v u → d.showable = true → d.shown.length ≤ sizeLine → Rk X s.heap u d
  | _, _, u, .non, r, hs, hz => by
    cases r
    refine Rk.of_is .none ?_
    simpa only [PyData.shown] using ReprIs.none
  | _, _, u, .bl b, r, hs, hz => by
    cases r
    refine Rk.of_is (.bool b) ?_
    simpa only [PyData.shown] using ReprIs.bool b
  | _, _, u, .int i, r, hs, hz => by
    obtain ⟨t, rfl⟩ := r
    refine Rk.of_is (.int i t) ?_
    simpa only [PyData.shown] using ReprIs.int (prog := X.prog) (w := X.w) t (by simpa [PyData.showable] using hs)
  | _, _, u, .str x, r, hs, hz => by
    obtain ⟨t, rfl⟩ := r
    refine Rk.of_is (.str x t) ?_
    simpa only [PyData.shown] using ReprIs.str (prog := X.prog) (w := X.w) x t (by simpa only [PyData.shown] using hz)
  | _, _, u, .lst hf hi, r, hs, hz => by
    cases r
    obtain ⟨its, rv, ⟨o, n, ho, hc, _, hd⟩, _⟩ := I.list (.inl (.inl hf))
    have hz' := hz
    simp only [PyData.shown] at hz'
    exact Rk.lst ho hc hd (IsDs.rk I hi rv (by simpa only [PyData.showable] using hs) (all_small listText_mem_le hz'))
  | _, _, u, .tup hf hi, r, hs, hz => by
    cases r
    obtain ⟨its, rv, ⟨o, ho, hc, n, hd⟩, _⟩ := I.tuple (.inl hf)
    have hz' := hz
    simp only [PyData.shown] at hz'
    exact Rk.tup ho hc hd (IsDs.rk I hi rv (by simpa only [PyData.showable] using hs) (all_small tupleText_mem_le hz'))
  | _, _, u, .dct hf hi, r, hs, hz => by
    cases r
    obtain ⟨_, hm, ps, rel, ⟨o, es, ep, ho, ex, hd, _, pr, _⟩⟩ := dk_of I.hok hf
    have hz' := hz
    simp only [PyData.shown] at hz'
    exact Rk.dct ho ex.1 hd hm (IsDk.rk I hi rel pr (by simpa only [PyData.showable] using hs) (shown_kv hz'))
theorem IsDs.rk (I : Inv X pins σ H s) : ∀ {vs : List V} {ds : List PyData} {us : List Value}, IsDs X.K H vs ds → Vals vs us → PyData.showableAll ds = true → (∀ t ∈ PyData.shownAll ds, t.length ≤ sizeLine) → Rks X s.heap us ds
  | _, _, _, .nil, r, hs, hz => by
    cases r
    exact Rks.nil
  | _, _, _, .cons hi hr, r, hs, hz => by
    cases r with
    | cons r1 r2 =>
      simp only [PyData.showableAll, Bool.and_eq_true] at hs
      simp only [PyData.shownAll, List.mem_cons, forall_eq_or_imp] at hz
      exact Rks.cons (IsD.rk I hi r1 hs.1 hz.1) (IsDs.rk I hr r2 hs.2 hz.2)
theorem IsDk.rk (I : Inv X pins σ H s) : ∀ {vs : List (Key × V)} {ds : List (PyData × PyData)} {ps : List (Key × Value)} {es : List DictEntry}, IsDk X.K H vs ds → KV vs ps → Pairs (mixKind X.prog X.w) es ps → PyData.showableKv ds = true → (∀ t ∈ PyData.shownKv ds, t.length ≤ sizeLine) → Rkd X s.heap es ds
  | _, _, _, _, .nil, r, p, hs, hz => by
    cases r
    cases p
    exact ⟨Rks.nil, Rks.nil⟩
  | _, _, _, _, .cons (k := k) (d := d) hi hr, r, p, hs, hz => by
    cases r with
    | cons r1 r2 =>
      cases p with
      | cons p1 p2 p3 =>
        simp only [PyData.showableKv, Bool.and_eq_true] at hs
        simp only [PyData.shownKv, List.mem_cons, forall_eq_or_imp] at hz
        have l1 : (keyD k).shown.length ≤ sizeLine := by
          have := hz.1
          rw [strLen_append, strLen_append] at this
          omega
        have l2 : d.shown.length ≤ sizeLine := by
          have := hz.1
          rw [strLen_append, strLen_append] at this
          omega
        obtain ⟨q1, q2⟩ := IsDk.rk I hr r2 p3 hs.2 hz.2
        have e1 : k = _ := r1.1
        have rk := IsD.rk I hi r1.2 hs.1.2 l2
        exact ⟨Rks.cons (key_rk (by subst e1; exact p1) hs.1.1 l1) q1, Rks.cons (by have p2' : _ = _ := p2; rw [← p2'] at rk; exact rk) q2⟩
end
def aReprX : R1A := fun us m Q => match us with
  | [u] => (match asD m u with
    | some d => d.showable = true ∧ d.depth ≤ 64 ∧ d.shown.length ≤ sizeLine ∧ Q (.v (.str d.shown)) m
    | none => False)
  | _ => False
def rReprX (K : PySem.W.Frag) : List V → Hp → VK → Prop := fun xs H Q => ∃ v d, xs = [v] ∧ IsD K H v d ∧ d.showable = true ∧ d.depth ≤ 64 ∧ d.shown.length ≤ sizeLine ∧ Q (.str d.shown) H
theorem call_reprX (hr : X.A.units + 66 < cLine) (hg : X.A.guards = some []) : CallR X (.builtin "repr") (rReprX X.K) := by
  intro pins s σ H xs us Q I r h
  obtain ⟨v, d, rfl, hd, h1, h3, h4, q⟩ := h
  obtain ⟨u, rfl, ru⟩ := vals1 r
  cases hd with
  | non => cases ru; exact PySem.P.repr_of_none ⟨.str _, H, I.tok _, ⟨_, rfl⟩, q⟩
  | bl b => cases ru; exact PySem.P.repr_of_bool ⟨.str _, H, I.tok _, ⟨_, rfl⟩, q⟩
  | int i =>
    obtain ⟨t, rfl⟩ := ru
    exact PySem.P.repr_of_int (by simpa [PyData.showable] using h1) ⟨.str _, H, I.tok _, ⟨_, rfl⟩, q⟩
  | str x =>
    obtain ⟨t, rfl⟩ := ru
    exact PySem.P.repr_of_str ⟨.str _, H, I.tok _, ⟨_, rfl⟩, q⟩ h4
  | lst hf hi =>
    cases ru
    obtain ⟨its, rv, ⟨o, n, ho, hc, _, hdd⟩, _⟩ := I.list (.inl (.inl hf))
    have hz' := h4
    simp only [PyData.shown] at hz'
    obtain ⟨a1, b1, r1, m1, k1⟩ := IsDs.rk I hi rv (by simpa only [PyData.showable] using h1) (all_small listText_mem_le hz')
    simp only [PyData.depth] at h3
    simp only [PyData.shown] at q
    refine PySem.call_repr_slot (by omega) ⟨o, ho, hc⟩ F.slot_list_repr.toG ?_
    cases its with
    | nil =>
      cases r1
      simp only [PyData.shownAll, listText_nil] at q
      exact PySem.call_list_repr_empty ⟨o, ho, hc⟩ ho hdd ⟨_, _, rfl, .str _, H, I.tok _, ⟨_, rfl⟩, q⟩
    | cons x l =>
      refine call_list_reprK ho hc hdd (not_mem_of_deeper (.list ho hc hdd r1) (by simp only [PyData.depth]; omega) m1) (by simpa using k1.length_eq) (fun i y e => k1.item i y (by simpa using e)) hg (fun b _ => Clear.nil b) (by show X.A.units + 1 + _ < _; omega) (fun _ _ e => e) (fun h' u tk hk => ?_) hz'
      exact ⟨_, _, rfl, .str _, H, I.kept (t' := tk) hk, ⟨_, rfl⟩, q⟩
  | tup hf hi =>
    cases ru
    obtain ⟨its, rv, ⟨o, ho, hc, n, hdd⟩, _⟩ := I.tuple (.inl hf)
    have hz' := h4
    simp only [PyData.shown] at hz'
    obtain ⟨a1, b1, r1, m1, k1⟩ := IsDs.rk I hi rv (by simpa only [PyData.showable] using h1) (all_small tupleText_mem_le hz')
    simp only [PyData.depth] at h3
    simp only [PyData.shown] at q
    refine PySem.call_repr_slot (by omega) ⟨o, ho, hc⟩ F.slot_tuple_repr ?_
    refine call_tuple_reprK ho hc hdd (not_mem_of_deeper (.tuple ho hc hdd r1) (by simp only [PyData.depth]; omega) m1) k1 hg (fun b _ => Clear.nil b) (by show X.A.units + 1 + _ < _; omega) (fun _ _ e => e) (fun h' u tk hk => ?_) hz'
    exact ⟨_, _, rfl, .str _, H, I.kept (t' := tk) hk, ⟨_, rfl⟩, q⟩
  | dct hf hi =>
    cases ru
    obtain ⟨_, hm, ps, rel, ⟨o, es, ep, ho, ex, hdd, _, pr, _⟩⟩ := dk_of I.hok hf
    have hz' := h4
    simp only [PyData.shown] at hz'
    obtain ⟨a1, a2, bs, r1, r2, m, k⟩ := (IsDk.rk I hi rel pr (by simpa only [PyData.showable] using h1) (shown_kv hz')).ents
    simp only [PyData.depth] at h3
    simp only [PyData.shown] at q
    refine PySem.call_repr_slot (by omega) ⟨o, ho, ex.1⟩ F.slot_dict_repr ?_
    refine call_dict_reprK ho ex.1 hdd hm (not_mem_of_deeper (.dict ho ex.1 hdd r1 r2) (by simp only [PyData.depth]; omega) m) k hg (fun b _ => Clear.nil b) (by show X.A.units + 1 + _ < _; omega) (fun _ _ e => e) (fun h' u tk hk => ?_) hz'
    exact ⟨_, _, rfl, .str _, H, I.kept (t' := tk) hk, ⟨_, rfl⟩, q⟩
end
theorem sim_reprX {K : PySem.W.Frag} : SimC K (rReprX K) aReprX := by
  intro F ro H m us vs Q Qa c iu h p
  unfold aReprX at h
  split at h
  · obtain ⟨v, rfl, i1⟩ := iu1 iu
    split at h
    · rename_i d ed
      exact ⟨v, d, rfl, asD_is c i1 ed, h.1, h.2.1, h.2.2.1, p.god c (.str _) h.2.2.2⟩
    · exact h.elim
  · exact h.elim
end Z
/-! Y4: sorted(set(xs)) of a list of ints. -/
namespace Z
open PySem PySem.Spec PyProof.Rows L2
/-- a set as it is made -/
abbrev setE (w : World) : Obj := { cls := .type "set", dict := none, data := .set #[] 0 (.fresh 0 0 (!w.params.followText "set-order")) }
section
variable {P : Program} {w : World} {A : Around} {E : Value → Shared → Prop} {s : Shared} {l : Addr} {its : Array Value} {ns : List Int}
/-- what a list's ints do to a set at S -/
theorem set_fill {S : Addr} (up : A.handled = none) (hS : s.heap.get? S = some (setE w)) (hl : s.heap.IsList l its) (hn : S ≠ l) (hi : IntsAre its.toList ns) (few : ns.length + 1 < scanBound) {R : Result → Shared → Prop}
    (h : ∀ (h' : Heap) (tk c : Nat), SetR w h' S (fun j => decide (j ∈ ns)) c → c ≤ ns.length → (∀ b o, b ≠ S → s.heap.get? b = some o → h'.get? b = some o) → R (.ok (.ret .none)) { s with heap := h', toks := tk }) :
    codeAny (model P w) A (.builtin "set.update.loop" ⟨[.ref S, .ref s.heap.objs.size], []⟩) R { s with heap := s.heap.push { cls := .type "list_iterator", data := .fields #[.ref l, .int 0 0] } } := by
  have hz : its.size = ns.length := by
    have q := IntsAre.length hi
    rw [Array.length_toList] at q
    exact q
  have ltS := Heap.lt_size hS
  have ltL : l < s.heap.objs.size := let ⟨_, e, _⟩ := hl; Heap.lt_size e
  have vals : ∀ (i : Nat) (v : Value), its[i]? = some v → ∃ k t, ns[i]? = some k ∧ v = .int k t := fun i v hv => by
    have lt : i < ns.length := hz ▸ (Array.getElem?_eq_some_iff.mp hv).1
    obtain ⟨t, e⟩ := PyProof.Rows.IntsAre.int_at hi i v (by rw [Array.getElem?_toList]; exact hv)
    refine ⟨ns[i], t, List.getElem?_eq_getElem lt, ?_⟩
    rw [e, List.getD_eq_getElem?_getD, List.getElem?_eq_getElem lt] <;> rfl
  have apart : S ∉ [s.heap.objs.size, l] := by
    simp only [List.mem_cons, List.not_mem_nil, or_false, not_or]
    exact ⟨Nat.ne_of_lt ltS, hn⟩
  refine set_update_ints (P := P) (w := w) ((Walks.list (A := A.in1) (by simp [up]) s.heap.objs.size l (Nat.ne_of_lt ltL) its).toS) S apart ns hz few vals _ 0 _ rfl (Nat.zero_le _) ⟨⟨_, Heap.get?_push_size _ rfl, rfl, rfl⟩, hl.push _⟩ ⟨0, Nat.le_refl 0, setR_new_at (Heap.get?_push_of_some _ hS)⟩ fun s2 c mv hc hR => ?_
  obtain ⟨h2, g2, d2, t2, o2⟩ := s2
  obtain rfl : g2 = s.gens := mv.gens
  obtain rfl : d2 = s.drawn := mv.drawn
  obtain rfl : o2 = s.os := mv.os
  refine h h2 t2 c hR (hz ▸ hc) fun b o nb e => ?_
  have lt := Heap.lt_size e
  refine mv.heap b o ?_ (Heap.get?_push_of_some _ e)
  simp only [List.mem_cons, List.not_mem_nil, or_false, not_or]
  exact ⟨nb, Nat.ne_of_lt lt⟩
set_option maxHeartbeats 8000000 in
/-- set(xs) -/
theorem set_call (up : A.handled = none) (hl : s.heap.IsList l its) (hi : IntsAre its.toList ns) (few : ns.length + 1 < scanBound) {Q : Value → Shared → Prop}
    (h : ∀ (h' : Heap) (tk c : Nat), SetR w h' s.heap.objs.size (fun j => decide (j ∈ ns)) c → c ≤ ns.length → (∀ b o, s.heap.get? b = some o → h'.get? b = some o) → Q (.ref s.heap.objs.size) { s with heap := h', toks := tk }) :
    wpAny (model P w) A (call (.type "set") [.ref l]) Q E s := by
  obtain ⟨cc, tl, mro⟩ := F.called_set.mro
  have k1 := F.called_set.made
  have k2 := F.called_set.sub
  have k3 := F.called_set.notType
  have k4 := F.called_set.canCreate
  have k5 := F.typeCall_set_1 (.ref l)
  refine wpAny_call (codeAny_of_tree (show wpAny _ _ (callAny (.type "set") _) _ _ _ from wpAny_pure ⟨Code.quiet_builtin _ (by decide +kernel), codeAny_builtin F.entry_type_call ?_⟩))
  rw [Around.under_plain (weight_type_call_type "set" [.ref l] []) rfl]
  repeat (any_goals (first | assumption | wp_step))
  refine codeAny_mono (code_set_led1 (w := w) (.ref l) (E := E) (Q₁ := fun u t => u = .ref s.heap.objs.size ∧ t = { s with heap := s.heap.push (setE w) }) ⟨rfl, rfl⟩) fun r t hr => ?_
  rcases r with e | f
  · exact hr
  rcases f with _ | _ | _ | u <;> first | exact hr.elim | skip
  obtain ⟨rfl, rfl⟩ := hr
  have new : (s.heap.push (setE w)).get? s.heap.objs.size = some (setE w) := Heap.get?_push_size _ rfl
  have ty : Shared.TypeIs { s with heap := s.heap.push (setE w) } (.ref s.heap.objs.size) "set" := ⟨_, new, rfl⟩
  have k6 := F.called_set.init.lookup
  have k7 := F.called_set.init.bind (.ref s.heap.objs.size)
  repeat (any_goals (first | assumption | wp_step))
  refine codeAny_mono (codeAny_call_builtin (R := wants (fun u t => u = .none ∧ ∃ h' tk c, t = { s with heap := h', toks := tk } ∧ SetR w h' s.heap.objs.size (fun j => decide (j ∈ ns)) c ∧ c ≤ ns.length ∧ ∀ b o, s.heap.get? b = some o → h'.get? b = some o) E) F.called_set.init.plain F.entry_set_init (check_set_init_1 ty ?_)) fun r t hr => ?_
  · obtain ⟨⟨oc, od, oda, os⟩, ho, hc, nl, hd⟩ := hl
    simp only at hc hd
    subst hc hd
    have ltL := Heap.lt_size ho
    have ho' := Heap.get?_push_of_some (setE w) ho
    have n1 := F.sub_list_set
    have n2 := F.sub_list_frozenset
    have n3 : (Value.type "list" == Value.type "dict") = false := by decide
    have hl1 : (s.heap.push (setE w)).IsList l its := ⟨_, ho', rfl, nl, rfl⟩
    unfold Builtin.«set.__init__» noKeywords Builtin.Frozenset.updateFrom
    generalize hPI : pyIter = PI
    wp_walk
    subst hPI
    refine wpAny_pyIter_list hl1 (wpAny_bind (wpAny_runValue ?_))
    refine set_fill (s := { s with heap := s.heap.push (setE w) }) (by simp [up]) new hl1 (Nat.ne_of_gt ltL) hi few fun h2 tk c hR hcn keep => ?_
    show wpAny _ _ _ _ _ _
    refine wpAny_pure ?_
    show wpAny _ _ (ret Value.none) _ _ _
    exact wpAny_pure ⟨rfl, h2, tk, c, rfl, hR, hcn, fun b o e => keep b o (Nat.ne_of_lt (Heap.lt_size e)) (Heap.get?_push_of_some _ e)⟩
  · rcases r with e | f
    · exact hr
    rcases f with _ | _ | _ | u <;> first | exact hr.elim | skip
    obtain ⟨rfl, h', tk, c, rfl, hR, hcn, keep⟩ := hr
    repeat (any_goals (first | assumption | wp_step))
    exact h _ _ _ hR hcn keep
end
end Z
/-! Y5: sorted(set(xs)), range(a, b, -1), d.get(k, x). -/
namespace Z
open PySem PySem.Spec PyProof.Rows L2
/-! ### sorted(set(xs)) -/
section
variable {X : Cx}
def rSetI (K : PySem.W.Frag) (w : World) : List V → Hp → VK → Prop := fun vs H Q => ∃ (l : Addr) (ns : List Int), vs = [V.ref l] ∧ SqL K H l (ns.map V.int) ∧ ns.length < 63 ∧ ∀ a c, H a = none → c ≤ ns.length → Q (.ref a) (upd H a (SetO w a (fun j => decide (j ∈ ns)) c))
theorem cr_setI (calm : X.calm = true) : CallR X (.type "set") (rSetI X.K X.w) := by
  intro pins s σ H vs us Q I r h
  obtain ⟨l, ns, rfl, hl, few, q⟩ := h
  rw [Vals.ref1 r]
  obtain ⟨its, rv, pl, _⟩ := I.list hl
  refine set_call (P := X.prog) (w := X.w) (ns := ns) (I.ok.hd calm) pl.isList (by simpa using rv.ints) (by unfold scanBound; omega) fun h' tk c hR hc keep => ?_
  exact ⟨.ref _, _, I.laid (t' := tk) keep (Nat.le_refl _) (setO_new hR), rfl, q _ c (I.hok.fresh (Nat.le_refl _)) hc⟩
theorem Gro.loose {F H : Hp} {ro : List Addr} {D : Addr} (hD : H D = none) (o : HO) : Gro F ro H F ro (upd H D o) :=
  ⟨Same.refl _, ⟨[], by simp, fun _ h => nomatch h⟩, fun a x q1 q2 => ⟨by rw [upd_ne (ne_of_none q1 hD)]; exact q1, rfl⟩, fun a q1 => by
    by_cases z : a = D
    · rw [z, upd_same]; simp
    · rw [upd_ne z]; exact q1⟩
/-- sorted(set(xs)) -/
def dSortSet (mu : Bool) (t : AE) : AE := fun E m Q => t E m fun u m1 => match asI m1 u with
  | some l => l.length < 63 ∧ ∀ l' : List Int, l'.Pairwise (· < ·) → (∀ k, k ∈ l' ↔ k ∈ l) → nw mu (l'.map .int) m1 Q
  | none => False
theorem de_sortSet (mu : Bool) {e : Expr} {f : AE} {p1 p2 q pos : Pos} (calm : X.calm = true) (hm : X.mg "sorted" = none) (hm2 : X.mg "set" = none) (he : DE X e f) (hg : Gl X "sorted" := by rfl) (hg2 : Gl X "set" := by rfl)
    (s1 : starEach [.Call (.Name "set" p2) [e] [] q] X.env = (false, eval (.Call (.Name "set" p2) [e] [] q) X.env) :: starEach [] X.env := by rfl) (s2 : starEach [e] X.env = (false, eval e X.env) :: starEach [] X.env := by rfl)
    (t1 : (backTo pos (starEach [] X.env)).any (·.1) = false := by rfl) (t2 : (backTo q (starEach [] X.env)).any (·.1) = false := by rfl) :
    DE X (.Call (.Name "sorted" p1) [.Call (.Name "set" p2) [e] [] q] [] pos) (dSortSet mu f) :=
  pe_imp (pe_callB (cr_sortedSet calm) hg hm bt_sorted (pa_cons (pe_callTy (cr_setI calm) hg2 hm2 bt_set (da_cons he da_nil s2) (by decide) (by decide) s2 t2) pa_nil s1) (by decide) (by decide) s1 t1) fun σ H Q ⟨F, ro, E, m, Qa, cm, ce, hf, p⟩ => by
    refine ⟨F, ro, E, m, fun us m1 => (match us with
      | [u] => (match asI m1 u with
        | some l => l.length < 63 ∧ ∀ l' : List Int, l'.Pairwise (· < ·) → (∀ k, k ∈ l' ↔ k ∈ l) → nw mu (l'.map .int) m1 Qa
        | none => False)
      | _ => False), cm, ce, hf, fun F1 ro1 H1 us vs m1 g1 c1 i1 h1 => ?_⟩
    have h1' := h1
    dsimp only at h1'
    split at h1'
    · rename_i u
      obtain ⟨v, rfl, iv⟩ := iu1 i1
      split at h1'
      · rename_i l el
        obtain ⟨a, rfl, hs⟩ := asI_sq c1 iv el
        refine ⟨a, l, rfl, hs, h1'.1, fun D c hD hc => ?_⟩
        obtain ⟨n1, n2⟩ := c1.new hD
        refine ⟨D, _, c, rfl, upd_same, by omega, fun ms b pw mem len hb => ?_⟩
        exact ((p.at g1).at (Gro.loose hD _)).nw (c1.loose n1 n2 _) mu (IsDs.of_ints ms) (h1'.2 ms pw fun k => (mem k).trans (by simp)) b hb
      · exact h1'.elim
    · exact h1'.elim
end
/-! ### range(a, b, -1) -/
def downU (hi : Int) (n : Nat) : List U := (List.range n).map fun (i : Nat) => U.v (.int (hi - (i : Int)))
theorem down_ok {K : PySem.W.Frag} {F H : Hp} {ro : List Addr} (lo : Int) (n : Nat) : ItOk K F ro H (Itc lo (-1) n) (downU lo n) fun _ => True := by
  have hl : (downU lo n).length = n := by simp [downU]
  refine ⟨fun i F' ro' H' m' g c' gd hi => ?_, fun F' ro' H' m' g c' gd => ?_, fun i w F' ro' H' m' x H2 g c' gd hw hy => ?_⟩
  · show i < n
    omega
  · show n ≤ _
    omega
  · obtain ⟨rfl, rfl⟩ := hy
    unfold downU at hw
    rw [List.getElem?_map] at hw
    obtain ⟨dd, e1, e2⟩ := Option.map_eq_some_iff.mp hw
    obtain ⟨_, e3⟩ := List.getElem?_eq_some_iff.mp e1
    simp at e3
    subst e3 e2
    have e4 : lo - (i : Int) = lo + (i : Int) * (-1) := by omega
    rw [e4]
    exact ⟨F', c', Gro.refl, .int _⟩
def sRngD (t : AA) : AI := fun E m R => t E m fun us m1 => match us with
  | [.v (.int i), .v (.int j), .v (.int c)] => c = -1 ∧ (-4611686018427387904 ≤ i ∧ i < 4611686018427387904 ∧ -4611686018427387904 ≤ j ∧ j < 4611686018427387904) ∧ R (downU i (i - j).toNat) (fun _ => True) m1
  | _ => False
theorem iu3 {K : PySem.W.Frag} {F : Hp} {ro : List Addr} {u w x : U} {vs : List V} (h : IsUs K F ro [u, w, x] vs) : ∃ a b c, vs = [a, b, c] ∧ IsU K F ro u a ∧ IsU K F ro w b ∧ IsU K F ro x c := by
  cases h with
  | cons h1 t =>
    cases t with
    | cons h2 t =>
      cases t with
      | cons h3 t =>
        cases t
        exact ⟨_, _, _, rfl, h1, h2, h3⟩
section
variable {X : Cx}
theorem di_rngD {tg a b c : Expr} {g : AA} {p pos : Pos} (hm : X.mg "range" = none) (ha : DA X [a, b, c] g) (hg : Gl X "range" := by rfl) (hs : starEach [a, b, c] X.env = (false, eval a X.env) :: starEach [b, c] X.env := by rfl) (hpl : (backTo pos (starEach [b, c] X.env)).any (·.1) = false := by rfl) :
    DI X tg (.Call (.Name "range" p) [a, b, c] [] pos) (sRngD g) :=
  pi_imp (pi_range3 hg hm ha hs hpl) fun σ H R ⟨F, ro, E, m, Ra, c, ce, hf, p⟩ =>
    ⟨F, ro, E, m, _, c, ce, hf, fun F1 ro1 H1 us vs m1 g1 c1 i1 h1 => by
      revert h1
      split
      · rintro ⟨rfl, hb, h1⟩
        obtain ⟨v, w, x, rfl, i2, i3, i4⟩ := iu3 i1
        cases i2; cases i3; cases i4
        exact ⟨_, _, _, _, rfl, RgC.neg (by omega) (by omega) (by omega) (by omega), p F1 ro1 H1 _ _ m1 _ g1 c1 (down_ok _ _) h1⟩
      · exact fun h => h.elim⟩
end
/-! ### d.get(k, x) -/
def dGet2 (td ty tx : AE) : AE := fun E m Q => td E m fun u m1 => (asK m1 u).isSome = true ∧ ty E m1 fun w m2 => tx E m2 fun x m3 => match asK m3 u, w, x with
  | some l, .v key, .v dd => (match keyOf key with
    | some _ => Q (.v ((lookD l key).getD dd)) m3
    | none => False)
  | _, _, _ => False
section
variable {X : Cx} {o i e : Expr} {fo fi fe : AE} {apos cpos : Pos}
theorem de_get2 (hu : X.A.units + 1 < cLine) (ho : DE X o fo) (hi : DE X i fi) (he : DE X e fe) (m : M2 X o "get" apos i e cpos := by exact ⟨by rfl, by rfl, by rfl, by rfl⟩) : DE X (.Call (.Attribute o "get" apos) [i, e] [] cpos) (dGet2 fo fi fe) :=
  pe_imp (pe_dget2 hu ho hi he m) fun σ H Q ⟨F, ro, E, m, Qa, cm, ce, hf, p⟩ =>
    ⟨F, ro, E, m, _, cm, ce, hf, fun F1 ro1 H1 u v m1 g1 c1 i1 h1 => by
      obtain ⟨hs, h1⟩ := h1
      obtain ⟨l0, el0⟩ := Option.isSome_iff_exists.mp hs
      obtain ⟨a, kvs, rfl, hx, hd⟩ := asK_own c1 i1 el0
      refine ⟨a, rfl, .inl ⟨kvs, .inl hx⟩, F1, ro1, E, m1, _, c1, ce.mono g1, h1, fun F2 ro2 H2 w y m2 g2 c2 i2 h2 => ⟨F2, ro2, E, m2, _, c2, ce.mono (g1.trans g2), h2, fun F3 ro3 H3 x z m3 g3 c3 i3 h3 => ?_⟩⟩
      revert h3
      split
      · rename_i l key dd el
        split
        · rename_i k ek
          intro h3
          obtain ⟨a2, kvs2, e0, hd2, e1, e2, hg⟩ := dget_of c3 (i1.mono (g2.trans g3)) el (i2.mono g3) ek
          cases e0
          refine ⟨_, hg, ?_⟩
          have hl := IsDk.look (k := k) hd2
          rw [← e2] at hl
          cases q : lookD l key with
          | none =>
            rw [q] at hl h3
            have hl2 : valV kvs2 k = none := hl
            rw [hl2]
            exact (p.at (g1.trans (g2.trans g3))).god c3 i3 h3
          | some d =>
            rw [q] at hl h3
            obtain ⟨v, ev, iv⟩ := hl
            rw [ev]
            exact (p.at (g1.trans (g2.trans g3))).god c3 iv h3
        · exact fun h => h.elim
      · exact fun h => h.elim⟩
end
end Z
/-! Y6: xs[::step], the step computed: 1 or -1. -/
namespace Z
open PySem PySem.Spec PyProof.Rows L2
theorem range_one (n : Nat) : sliceRange 0 (n : Int) 1 = List.range n := by
  unfold sliceRange
  by_cases h : (0 : Int) < (n : Int)
  · have e : ((n : Int) - 0 + 1 - 1) / 1 = (n : Int) := by rw [Int.ediv_one]; omega
    simp only [h, if_true, e, Int.toNat_natCast, show ((1 : Int) > 0) by decide]
    conv => rhs; rw [← List.map_id (List.range n)]
    apply List.map_congr_left
    intro k hk
    simp
  · have e : n = 0 := by omega
    subst e
    simp
theorem pick_one (items : Array Value) : slicePick items none none (some 1) = items := by
  unfold slicePick
  have e : sliceBounds none none (some 1) items.size = (0, (items.size : Int), 1) := by first | rfl | simp [sliceBounds]
  rw [e]
  show ((sliceRange 0 (items.size : Int) 1).filterMap (items[·]?)).toArray = _
  rw [range_one]
  have e2 : (List.range items.size).filterMap (items[·]?) = items.toList := by
    apply List.ext_getElem?
    intro i
    have := PySem.W.krv_all items
    rw [this]
  rw [e2]
section
variable {X : Cx}
def tStepL (K : PySem.W.Frag) (te ts : TE) : TE := fun σ H Q => te σ H fun x H1 => ∃ a, x = .ref a ∧ tPart ts σ H1 fun o H2 => ∃ c xs, o = some c ∧ (c = 1 ∨ c = -1) ∧ SqL K H2 a xs ∧ ∀ p, H2 p = none → Q (.ref p) (upd H2 p (.lst (if c = 1 then xs else xs.reverse)))
theorem pe_stepL {e st : Expr} {te ts : TE} {p3 pos : Pos} (he : PE X e te) (hs : PE X st ts) : PE X (.Subscript e (.Slice none none (some st) p3) pos) (tStepL X.K te ts) := by
  refine ⟨fun pins s σ H Q I h => Subscript_ (thn (he.run pins s σ H _ I h) fun v t ⟨x, H1, J, rx, a, ex, q⟩ => ?_)⟩
  subst ex
  cases rx
  refine wpAny_Slice (thn (po_none.run pins t σ H1 (fun o G => o = none ∧ G = H1) J ⟨rfl, rfl⟩) fun lo t1 ⟨o1, G1, J1, pa, e1, e2⟩ => ?_)
  subst e1 e2
  refine thn (po_none.run pins t1 σ G1 (fun o G => o = none ∧ G = G1) J1 ⟨rfl, rfl⟩) fun hi t2 ⟨o2, G2, J2, pb, e1, e2⟩ => ?_
  subst e1 e2
  refine thn ((po_some hs).run pins t2 σ G2 (fun o G => ∃ c xs, o = some c ∧ (c = 1 ∨ c = -1) ∧ SqL X.K G a xs ∧ ∀ p, G p = none → Q (.ref p) (upd G p (.lst (if c = 1 then xs else xs.reverse)))) J2 q) fun sv t3 ⟨o3, G3, J3, pc, c, xs, e1, hc, hx, qq⟩ => ?_
  subst e1
  have J4 : Inv X pins σ G3 { t3 with heap := t3.heap.push { cls := .type "slice", data := .fields #[lo, hi, sv] } } := J3.kept (t' := t3.toks) fun b ob q => Heap.get?_push_of_some _ q
  obtain ⟨its, r, ht, hz⟩ := J4.list hx
  have hlen := r.length
  show wpAny (model X.prog X.w) X.A (subscriptTail e (.Slice none none (some st) p3) (.ref a) (.ref t3.heap.objs.size)) (EP X pins σ Q) X.xe _
  refine tail_any (ops := [.ref a, .ref t3.heap.objs.size]) ht.isList.typeIs (PySem.slot_list_getitem.lookup) ?_ (by with_unfolding_all rfl)
  refine wpAny_getItem_list_slice ht.isList (Heap.IsSliceOf.new _ lo hi sv) pa pb pc (by rcases hc with rfl | rfl <;> decide) ?_ (by rw [List.size_toArray]; omega)
  rcases hc with rfl | rfl
  · rw [pick_one]
    refine ⟨.ref _, _, J4.laid (t' := t3.toks) (o := .lst xs) (fun b ob q => Heap.get?_push_of_some _ q) (Nat.le_refl _) ⟨hz, _, 0, r, Heap.get?_push_size _ rfl⟩, rfl, qq _ (J4.hok.fresh (Nat.le_refl _))⟩
  · rw [PySem.W.krv_pick]
    refine ⟨.ref _, _, J4.laid (t' := t3.toks) (o := .lst xs.reverse) (fun b ob q => Heap.get?_push_of_some _ q) (Nat.le_refl _) ⟨by rw [List.length_reverse]; exact hz, _, 0, r.reverse, Heap.get?_push_size _ rfl⟩, rfl, qq _ (J4.hok.fresh (Nat.le_refl _))⟩
/-- xs[::step] -/
def dStep (mu : Bool) (ta ts : AE) : AE := fun E m Q => ta E m fun u m1 => (asL m1 u).isSome = true ∧ ts E m1 fun w m2 => match w with
  | .v (.int c) => (c = 1 ∨ c = -1) ∧ (match asL m2 u with
    | some l => nw mu (if c = 1 then l else l.reverse) m2 Q
    | none => False)
  | _ => False
theorem de_step (mu : Bool) {e st : Expr} {f g : AE} {p3 pos : Pos} (he : DE X e f) (hs : DE X st g) : DE X (.Subscript e (.Slice none none (some st) p3) pos) (dStep mu f g) :=
  pe_imp (pe_stepL he hs) fun σ H Q ⟨F, ro, E, m, Qa, cm, ce, hf, p⟩ =>
    ⟨F, ro, E, m, _, cm, ce, hf, fun F1 ro1 H1 u v m1 g1 c1 i1 h1 => by
      obtain ⟨hs, h1⟩ := h1
      obtain ⟨l0, el0⟩ := Option.isSome_iff_exists.mp hs
      obtain ⟨a, _, rfl, _, _⟩ := asL_sq c1 i1 el0
      refine ⟨a, rfl, F1, ro1, E, m1, _, c1, ce.mono g1, h1, fun F2 ro2 H2 w y m2 g2 c2 i2 h2 => ?_⟩
      revert h2
      split
      · rename_i c
        rintro ⟨hc, h2⟩
        cases i2
        revert h2
        split
        · rename_i l el
          intro h2
          obtain ⟨b, xs, eb, r, d⟩ := asL_sq c2 (i1.mono g2) el
          cases eb
          refine ⟨c, rfl, c, xs, rfl, hc, Or.inl r, ?_⟩
          refine (p.at (g1.trans g2)).nw c2 mu (l := if c = 1 then l else l.reverse) ?_ h2
          split
          · exact d
          · exact d.reverse
        · exact fun h => h.elim
      · exact fun h => h.elim⟩
end
/-! ### repr([a, b]), cells too -/
def asDs (m : Sto) : List U → Option (List PyData)
  | [] => some []
  | u :: us => match asD m u, asDs m us with
    | some d, some l => some (d :: l)
    | _, _ => none
theorem asDs_is {K : PySem.W.Frag} {F H : Hp} {ro : List Addr} {m : Sto} (c : ConM K F ro H m) : ∀ {us : List U} {vs : List V} {l : List PyData}, IsUs K F ro us vs → asDs m us = some l → IsDs K H vs l
  | [], _, _, h, e => by
    cases h
    cases e
    exact .nil
  | u :: us, _, _, h, e => by
    cases h with
    | cons h1 h2 =>
      simp only [asDs] at e
      split at e
      · rename_i d l e1 e2
        cases e
        exact .cons (asD_is c h1 e1) (asDs_is c h2 e2)
      · cases e
def dReprL (t : AA) : AE := fun E m Q => t E m fun us m1 => match asDs m1 us with
  | some l => l.length ≤ sizeLine ∧ (PyData.list l).showable = true ∧ (PyData.list l).depth ≤ 64 ∧ (PyData.list l).shown.length ≤ sizeLine ∧ Q (.v (.str (PyData.list l).shown)) m1
  | none => False
section
variable {X : Cx}
theorem de_reprL {es : List Expr} {g : AA} {p lpos pos : Pos} (hr : X.A.units + 66 < cLine) (hgd : X.A.guards = some []) (hm : X.mg "repr" = none) (h : DA X es g) (hg : Gl X "repr" := by rfl)
    (s1 : starEach [.List es lpos] X.env = (false, eval (.List es lpos) X.env) :: starEach [] X.env := by rfl) (t1 : (backTo pos (starEach [] X.env)).any (·.1) = false := by rfl) :
    DE X (.Call (.Name "repr" p) [.List es lpos] [] pos) (dReprL g) :=
  pe_imp (pe_callB (call_reprX hr hgd) hg hm bt_repr (pa_cons (pe_lst h) pa_nil s1) (by decide) (by decide) s1 t1) fun σ H Q ⟨F, ro, E, m, Qa, cm, ce, hf, p⟩ =>
    ⟨F, ro, E, m, _, cm, ce, hf, fun F1 ro1 H1 us vs m1 g1 c1 i1 h1 => by
      revert h1
      dsimp only
      split
      · rename_i l el
        rintro ⟨hz, h2, h3, h4, q⟩
        have hd := asDs_is c1 i1 el
        refine ⟨by rw [hd.length]; exact hz, fun D hD => ?_⟩
        obtain ⟨n1, n2⟩ := c1.new hD
        have sm : Same H1 (upd H1 D (.lst vs)) := fun a u e => by rw [upd_ne (ne_of_none e hD)]; exact e
        exact ⟨_, .list l, rfl, .lst upd_same (IsDs.mono sm hd), h2, h3, h4, ((p.at g1).at (Gro.loose hD _)).god (c1.loose n1 n2 _) (.str _) q⟩
      · exact fun h => h.elim⟩
end
end Z
/-! Y7: set comprehensions of ints. -/
namespace Z
open PySem PySem.Spec PyProof.Rows L2
section
variable {X : Cx}
/-- one item of a set comprehension: N is wanted behind it -/
def ScStep (w : World) (g : TG) (tt : TT) (te : TE) (τ : L2.St) (vs : List Nat) (D : Addr) (x : V) (H : Hp) (N : Hp → Prop) : Prop :=
  g x τ H fun τ2 H2 => wipe τ2 vs = τ ∧ tt τ2 H2 fun b H3 => if b = true then te τ2 H3 fun y H4 => ∃ (k : Int) (S : Int → Bool) (n : Nat), y = .int k ∧ H4 D = some (SetO w D S n) ∧ n + 1 < scanBound ∧ N (upd H4 D (SetO w D (fun j => S j || decide (j = k)) (if S k = true then n else n + 1))) else N H3
def tSetc (w : World) (wi : TI) (g : TG) (tt : TT) (te : TE) (vs : List Nat) : TE := fun σ H Q => wi σ H fun J H1 => ∀ D, H1 D = none → ∃ W : Nat → Nat → Hp → Prop, (∃ m, W 0 m (upd H1 D (SetO w D (fun _ => false) 0))) ∧
  ∀ i m G, W i m G → (J.stop i G ∧ Q (.ref D) G) ∨ (J.go i G ∧ ∃ N : Hp → Prop, (∀ G', N G' → ∃ m', m' < m ∧ W (i + 1) m' G') ∧ ∀ x G', J.yld i G x G' → ScStep w g tt te (wipe σ vs) vs D x G' N)
/-- set.add of an int -/
theorem add_int {pins : List (Addr × Obj)} {σ : L2.St} {H : Hp} {s : Shared} {E : Value → Shared → Prop} {D : Addr} {S : Int → Bool} {n : Nat} {k : Int} {tk : Tok} {Q : Value → Shared → Prop} (I : Inv X pins σ H s) (hD : H D = some (SetO X.w D S n)) (few : n + 1 < scanBound)
    (q : ∀ t, Inv X pins σ (upd H D (SetO X.w D (fun j => S j || decide (j = k)) (if S k = true then n else n + 1))) t → Q .none t) : wpAny (model X.prog X.w) X.A (call (.builtin "set.add") [.ref D, .int k tk]) Q E s :=
  setR_add (setO_get I hD) few fun h' sb new => q _ (I.write (e := D) (t' := s.toks + 1) (by rw [hD]; trivial) (.inl rfl) (fun b u ne e => (sb.2 b ne).trans e) (let ⟨o, _, _, _, ho, _⟩ := new; ⟨o, ho⟩) (setO_new new))
/-- the turns of the loop, within the block -/
theorem setc_turns {pins : List (Addr × Obj)} {σ : L2.St} {H3 : Hp} {s3 s4 : Shared} {Q : VK} {elt tg iter : Expr} {ifs : List Expr} {scope : Scope} {own : List (PySem.Str × Nat)} {pos : Pos} {g : TG} {tt : TT} {te : TE} {R : Result → Shared → Prop} {ce : Env} {fp : List Addr} {D : Addr} {J : It} {tn : Nat → Heap → Prop} {it : Addr} {W : Nat → Nat → Hp → Prop} {m0 : Nat}
    (hc : X.calm = true) (T : Turn X.prog X.w X.K tg J fp it tn) (pg : PG (X.blk s3 H3 scope ce fp) tg g) (pt : PTs (X.blk s3 H3 scope ce fp) ifs tt) (pe : PE (X.blk s3 H3 scope ce fp) elt te)
    (turn : ∀ i m G, W i m G → (J.stop i G ∧ Q (.ref D) G) ∨ (J.go i G ∧ ∃ N : Hp → Prop, (∀ G', N G' → ∃ m', m' < m ∧ W (i + 1) m' G') ∧ ∀ x G', J.yld i G x G' → ScStep X.w g tt te (wipe σ (own.map (·.2))) (own.map (·.2)) D x G' N))
    (I4 : Inv (X.blk s3 H3 scope ce fp) [] (wipe σ (own.map (·.2))) H3 s4) (st4 : tn 0 s4.heap) (nfp : ∀ b ∈ fp, H3 b = none) (w0 : W 0 m0 H3)
    (hEnd : ∀ G t, Inv (X.blk s3 H3 scope ce fp) [] (wipe σ (own.map (·.2))) G t → Q (.ref D) G → R (.ok .next) t) :
    codeAny (model X.prog X.w) X.A (.compLoop (.SetComp elt [⟨tg, iter, ifs, 0⟩] scope pos) 0 (.ref it) (.ref D) ce) R s4 := by
  have still : ∀ {τ : L2.St} {G : Hp} {t : Shared}, Inv (X.blk s3 H3 scope ce fp) [] τ G t → (∀ b ∈ fp, G b = none) → ∀ b ∈ fp, FpOk (X.blk s3 H3 scope ce fp) [] G b := fun J hn b hb =>
    ⟨hn b hb, (J.ok.exf b hb).1, J.ok.exfs b hb, .inl hb, fun x c e => (J.ok.exf b hb).2 x c e, fun p hp => absurd (show p ∈ ([] : List (Addr × Obj)) from hp) (by simp)⟩
  refine PpSet.compLoopS_any (fun n t => ∃ i G, Inv (X.blk s3 H3 scope ce fp) [] (wipe σ (own.map (·.2))) G t ∧ tn i t.heap ∧ (∀ b ∈ fp, G b = none) ∧ W i n G) (fun n t ⟨i, G, J5, a5, n5, w5⟩ => ?_) m0 ⟨0, H3, I4, st4, nfp, w0⟩
  rcases turn i n G w5 with ⟨stop, qq⟩ | ⟨go, N, less, step⟩
  · refine thnF (T.done (X.blk s3 H3 scope ce fp) rfl rfl rfl hc i [] t _ G (fun _ _ => False) J5 (still J5 n5) a5 stop) fun r t1 ⟨er, J6⟩ => ?_
    subst er
    exact hEnd G t1 J6 qq
  · refine thnF (T.item (X.blk s3 H3 scope ce fp) rfl rfl rfl hc i [] t _ G (fun _ _ => False) J5 (still J5 n5) a5 go) fun r t1 ⟨u, er, h1⟩ => ?_
    subst er
    refine thnF h1 fun _ t2 ⟨x, G2, J2, r2, y2, a2, n2⟩ => ?_
    have J2' := J2.pinned (still J2 n2) (T.obj _ _ a2)
    refine thnF (pg.run _ t2 _ G2 x u _ J2' r2 (step x G2 y2)) fun _ t3 ⟨τ3, G3, J3, ew, q3⟩ => ?_
    refine thnF (pt.run _ t3 τ3 G3 _ J3 q3) fun b t4 ⟨G4, J4, q4⟩ => ?_
    have over : ∀ {t' : Shared} {G' : Hp}, Inv (X.blk s3 H3 scope ce fp) ([] ++ pinsAt fp t2.heap) τ3 G' t' → N G' → ∃ m, m < n ∧ ∃ i G, Inv (X.blk s3 H3 scope ce fp) [] (wipe σ (own.map (·.2))) G t' ∧ tn i t'.heap ∧ (∀ b ∈ fp, G b = none) ∧ W i m G := fun {t' G'} J' hN => by
      obtain ⟨m', lt, w'⟩ := less G' hN
      have at_ : ∀ b ∈ fp, ∀ o, t2.heap.get? b = some o → t'.heap.get? b = some o ∧ G' b = none := fun b hb o e =>
        let z := J'.pin (b, o) (List.mem_append_right _ (List.mem_append_right _ (mem_pinsAt hb e)))
        ⟨z.1, z.2.1⟩
      refine ⟨m', lt, i + 1, G', (J'.unpinned (pins := [])).weak (by rw [← ew, wipe_length]) (fun j v e => ?_), T.keep _ _ _ a2 fun b hb o e => (at_ b hb o e).1, fun b hb => ?_, w'⟩
      · rw [← ew] at e
        exact (wipe_some e).1
      · obtain ⟨o, e, _⟩ := T.obj _ _ a2 b hb
        exact (at_ b hb o e).2
    cases b with
    | false =>
      simp only [Bool.false_eq_true, if_false] at q4 ⊢
      exact over J4 q4
    | true =>
      simp only [if_true] at q4 ⊢
      refine thnF (pe.run _ t4 τ3 G4 _ J4 q4) fun z t5 ⟨y, G5, J5, r5, k, S, c, ey, hD, few, hN⟩ => ?_
      subst ey
      obtain ⟨tk, rfl⟩ := r5
      exact add_int (X := X.blk s3 H3 scope ce fp) J5 hD few fun t6 J6 => over J6 hN
/-- {elt for tg in iter if ..}, elt an int -/
theorem pe_setc {elt tg iter : Expr} {ifs : List Expr} {scope : Scope} {own : List (PySem.Str × Nat)} {pos : Pos} {wi : TI} {g : TG} {tt : TT} {te : TE} (hc : X.calm = true) (nd : X.N.Nodup) (pi : PI X tg iter wi) (bk : BlkOk X.N X.env.scope scope own)
    (fg : ∀ (t : Shared) (G : Hp) (b : Addr) (cl : List (PySem.Str × Addr)) (fp : List Addr), PG (X.blk t G scope (compEnvC scope cl b X.env) fp) tg g)
    (ft : ∀ (t : Shared) (G : Hp) (b : Addr) (cl : List (PySem.Str × Addr)) (fp : List Addr), PTs (X.blk t G scope (compEnvC scope cl b X.env) fp) ifs tt)
    (fe : ∀ (t : Shared) (G : Hp) (b : Addr) (cl : List (PySem.Str × Addr)) (fp : List Addr), PE (X.blk t G scope (compEnvC scope cl b X.env) fp) elt te)
    (flat : ∀ v, foldedSetIterable iter X.env v = pure v := by intro _; rfl) : PE X (.SetComp elt [⟨tg, iter, ifs, 0⟩] scope pos) (tSetc X.w wi g tt te (own.map (·.2))) := by
  refine ⟨fun pins s σ H Q I h => ?_⟩
  rw [PpSet.eval_SetComp]
  have freed : ∀ n ∈ scope.names, n.2 = .free → ∃ c, X.env.cells.lookup n.1 = some c := fun n hn e => (bk.free n hn e).elim (fun k => I.ok.has _ (.inl k)) fun k => I.ok.has _ (.inr k)
  refine wpAny_comprehension_free (use := none) rfl flat (closure_ok freed) bk.kind (fun n hn e => by rw [bk.uniq n hn, e]) (thn (pi.run pins s σ H _ I h) fun v0 t1 h1 => thn h1 fun v1 t2 h2 => ?_)
  obtain ⟨it, fp, tn, J, G2, ev, I2, T, a2, ff, hq⟩ := h2
  subst ev
  refine PpSet.newSet_ok (newEnv_comp ?_)
  obtain ⟨D, eD⟩ : ∃ D, t2.heap.objs.size = D := ⟨_, rfl⟩
  rw [eD]
  obtain ⟨W, ⟨m0, w0⟩, turn⟩ := hq D (I2.hok.fresh (Nat.le_of_eq eD))
  obtain ⟨t3, e3⟩ : ∃ t3 : Shared, { t2 with heap := t2.heap.push { cls := .type "set", dict := none, data := .set #[] 0 (.fresh 0 0 (!X.w.params.followText "set-order")) } } = t3 := ⟨_, rfl⟩
  obtain ⟨H3, eH⟩ : ∃ H3, upd G2 D (SetO X.w D (fun _ => false) 0) = H3 := ⟨_, rfl⟩
  have hp3 : t3.heap = t2.heap.push { cls := .type "set", dict := none, data := .set #[] 0 (.fresh 0 0 (!X.w.params.followText "set-order")) } := by rw [← e3]
  have I3 : Inv X pins σ H3 t3 := by
    rw [← e3, ← eH]
    refine I2.laid (t' := t2.toks) (fun c u e => Heap.get?_push_of_some _ e) (Nat.le_of_eq eD) ?_
    rw [← eD]
    exact setO_new (setR_fresh X.w)
  have f3 : ∀ c ∈ fp, FpOk X pins H3 c ∧ c < t3.heap.objs.size := fun c hcm => by
    obtain ⟨u, eu, _⟩ := T.obj _ _ a2 c hcm
    have lt := Heap.lt_size eu
    refine ⟨⟨?_, (ff c hcm).2⟩, by rw [hp3, Heap.size_push]; exact Nat.lt_succ_of_lt lt⟩
    rw [← eH, upd_ne (by rw [← eD]; exact Nat.ne_of_lt lt)]
    exact (ff c hcm).1
  have a3 : tn 0 t3.heap := T.keep _ _ _ a2 fun c _ u e => by rw [hp3]; exact Heap.get?_push_of_some _ e
  rw [eH] at w0
  have I4 := block_start I3 bk nd f3
  rw [e3]
  obtain ⟨C, eC⟩ : ∃ C, t3.heap.objs.size = C := ⟨_, rfl⟩
  obtain ⟨cells, ecl⟩ : ∃ cells, cellsFrom (C + 1) scope.names (cloFrom X.env.cells scope.names []) = cells := ⟨_, rfl⟩
  obtain ⟨ce, ece⟩ : ∃ ce, compEnvC scope cells C X.env = ce := ⟨_, rfl⟩
  have whole : codeAny (model X.prog X.w) X.A (.compStart (.SetComp elt [⟨tg, iter, ifs, 0⟩] scope pos) 0 (.ref it) (.ref D) ce) (compPost (model X.prog X.w) X.A X.xe none (EP X pins σ Q) (.ref D) C) { t3 with heap := pushCells (t3.heap.push { cls := .type "dict", data := .dict #[] }) scope.names } := by
    rw [eC, ecl, ece] at I4
    have lc : ce.locals = C := by rw [← ece]; rfl
    have pg := fg t3 H3 C cells fp
    have pt := ft t3 H3 C cells fp
    have pe := fe t3 H3 C cells fp
    rw [ece] at pg pt pe
    obtain ⟨t4, e4⟩ : ∃ t4 : Shared, { t3 with heap := pushCells (t3.heap.push { cls := .type "dict", data := .dict #[] }) scope.names } = t4 := ⟨_, rfl⟩
    rw [e4] at I4 ⊢
    have a4 : tn 0 t4.heap := T.keep _ _ _ a3 fun c _ u e => by rw [← e4]; exact pushCells_keeps _ _ _ _ (Heap.get?_push_of_some _ e)
    have lp : codeAny (model X.prog X.w) X.A (.compLoop (.SetComp elt [⟨tg, iter, ifs, 0⟩] scope pos) 0 (.ref it) (.ref D) ce) (compPost (model X.prog X.w) X.A X.xe none (EP X pins σ Q) (.ref D) C) t4 := by
      refine setc_turns (X := X) (pins := pins) hc T pg pt pe turn I4 a4 (fun c hcm => (f3 c hcm).1.1) w0 fun G t5 J5 qq => ?_
      have I6 : Inv X pins σ G t5 := I3.call' (ch := fp) J5.os J5.base J5.hok J5.bare fun c hcm => let ⟨_, z1, z2, z3, z4, z5⟩ := (f3 c hcm).1; ⟨z3, z1, z4, z5⟩
      have none_ : G C = none := lc ▸ J5.free
      obtain ⟨m, at_, _⟩ := J5.loc
      have at_ : t5.heap.Ns C m := lc ▸ at_
      obtain ⟨k0, k1, k2, k3, k4, k5⟩ := I3.fpOk (Nat.le_of_eq eC) none_
      exact ⟨m, at_, fun h9 sb => ⟨.ref D, G, I6.turned (t' := t5.toks) (fun c u ne e => (sb.2 c ne).trans e) k0 k1 k3 k4 k5, rfl, qq⟩⟩
    exact PpSet.codeAny_compStart_set lp (T.self X.A 0 _ _ _ a4 lp)
  rw [← ece, ← ecl, ← eC] at whole
  exact whole
end
end Z
namespace Z
open PySem PySem.Spec PyProof.Rows L2
/-! ### what is found, without addresses -/
def addK (l : List Int) (k : Int) : List Int := if k ∈ l then l else l ++ [k]
theorem addK_mem {l : List Int} {k j : Int} : j ∈ addK l k ↔ j ∈ l ∨ j = k := by
  unfold addK
  split
  · rename_i h
    exact ⟨.inl, fun z => z.elim id fun e => e ▸ h⟩
  · simp
theorem addK_len {l : List Int} {k : Int} : (if decide (k ∈ l) = true then l.length else l.length + 1) = (addK l k).length := by
  unfold addK
  by_cases h : k ∈ l <;> simp [h]
theorem addK_len_le {l : List Int} {k : Int} : (addK l k).length ≤ l.length + 1 := by
  unfold addK
  split <;> simp
/-- the turns: acc the different ints met -/
def scU (gd : Sto → Prop) (g : AG) (tt : AT) (te : AE) (E : En) (R : List Int → Sto → Prop) : List U → List Int → Sto → Prop
  | [], acc, m => gd m ∧ R acc m
  | u :: us, acc, m => gd m ∧ g u E m fun E1 m1 => tt E1 m1 fun c m2 => if c = true then te E1 m2 fun w m3 => (match w with
      | .v (.int k) => acc.length < 60 ∧ scU gd g tt te E R us (addK acc k) m3
      | _ => False) else scU gd g tt te E R us acc m2
section
variable {K : PySem.W.Frag}
/-- a thing at D that the rest does not know stays -/
theorem Gro.apart {F H F' H' : Hp} {ro ro' : List Addr} {D : Addr} {o : HO} (g : Gro F ro H F' ro' H') (q1 : H D = some o) (q2 : F D = none) (q3 : D ∉ ro) : H' D = some o ∧ F' D = none ∧ D ∉ ro' := by
  obtain ⟨z1, z2⟩ := g.fr D _ q1 q3
  refine ⟨z1, z2.trans q2, fun hm => ?_⟩
  obtain ⟨t, et, nt⟩ := g.more
  rw [et] at hm
  rcases List.mem_append.mp hm with z | z
  · exact q3 z
  · rw [nt D z] at q1; cases q1
theorem Gro.over {F H F' H' : Hp} {ro ro' : List Addr} {D : Addr} (g : Gro F ro H F' ro' H') (hD : H D = none) (o : HO) : Gro F ro H F' ro' (upd H' D o) :=
  ⟨g.ex, g.more, fun a x q1 q2 => by
    obtain ⟨w1, w2⟩ := g.fr a x q1 q2
    exact ⟨by rw [upd_ne (ne_of_none q1 hD)]; exact w1, w2⟩, fun a q1 => by
    by_cases z : a = D
    · rw [z, upd_same]; simp
    · rw [upd_ne z]; exact g.st a q1⟩
theorem setc_sim {w : World} {s : AI} {g : TG} {ga : AG} {tt : AT} {te : AE} {vs : List Nat} {σ : L2.St} {F H : Hp} {ro : List Addr} {E : En} {m : Sto} {R : List Int → Sto → Prop} {Q : VK} (hg : GOwn K g ga vs) (cm : ConM K F ro H m) (ce : ConE K F ro σ E)
    (hf : s E m fun us gd m1 => scU gd ga tt te (wipeE E vs) R us [] m1)
    (q : ∀ (F' : Hp) (ro' : List Addr) (G : Hp) (D : Addr) (S : Int → Bool) (acc : List Int) (m' : Sto), Gro F ro H F' ro' G → ConM K F' ro' G m' → G D = some (SetO w D S acc.length) → (∀ j, S j = decide (j ∈ acc)) → acc.length < 64 → R acc m' → Q (.ref D) G) :
    tSetc w (cI K s) g (cT K tt) (cE K te) vs σ H Q := by
  refine ⟨F, ro, E, m, _, cm, ce, hf, fun F1 ro1 H1 us gd m1 J g1 c1 ok h1 => ?_⟩
  intro D hD
  obtain ⟨hFD, hrD⟩ := c1.new hD
  refine ⟨fun i n H' => n = us.length - i ∧ i ≤ us.length ∧ ∃ F' ro' m' acc S, Gro F1 ro1 H1 F' ro' H' ∧ ConM K F' ro' H' m' ∧ H' D = some (SetO w D S acc.length) ∧ (∀ j, S j = decide (j ∈ acc)) ∧ acc.length < 64 ∧ F' D = none ∧ D ∉ ro' ∧ scU gd ga tt te (wipeE E vs) R (us.drop i) acc m',
    ⟨us.length, rfl, Nat.zero_le _, F1, ro1, m1, [], _, Gro.loose hD _, c1.loose hFD hrD _, upd_same, fun j => by simp, by simp, hFD, hrD, h1⟩, ?_⟩
  rintro i n H2 ⟨en, hi, F2, ro2, m2, acc, S, g2, c2, hx, hS, few, hF2, hr2, h2⟩
  by_cases hlt : i < us.length
  · rw [List.drop_eq_getElem_cons hlt] at h2
    obtain ⟨hgd, h2⟩ := h2
    refine .inr ⟨ok.go i F2 ro2 H2 m2 g2 c2 hgd hlt, fun H' => ∃ F' ro' m' acc S, Gro F1 ro1 H1 F' ro' H' ∧ ConM K F' ro' H' m' ∧ H' D = some (SetO w D S acc.length) ∧ (∀ j, S j = decide (j ∈ acc)) ∧ acc.length < 64 ∧ F' D = none ∧ D ∉ ro' ∧ scU gd ga tt te (wipeE E vs) R (us.drop (i + 1)) acc m', fun H' h => ⟨us.length - (i + 1), by omega, rfl, hlt, h⟩, fun x H3 hy => ?_⟩
    obtain ⟨F3, c3, g3, iu⟩ := ok.yld i us[i] F2 ro2 H2 m2 x H3 g2 c2 hgd (List.getElem?_eq_getElem hlt) hy
    refine hg.sim F3 ro2 H3 σ (wipeE E vs) m2 us[i] x _ _ c3 (conE_wipe (ce.mono (g1.trans (g2.trans g3))) vs) iu h2 fun σ4 E4 ce4 ew h4 => ⟨ew, ?_⟩
    refine ⟨F3, ro2, E4, m2, _, c3, ce4, h4, fun F5 ro5 H5 c m5 g5 c5 h5 => ?_⟩
    cases c with
    | true =>
      rw [if_pos rfl] at h5 ⊢
      refine ⟨F5, ro5, E4, m5, _, c5, ce4.mono g5, h5, fun F6 ro6 H6 u6 y m6 g6 c6 i6 h6 => ?_⟩
      revert h6
      split
      · rename_i k
        rintro ⟨few2, h6⟩
        cases i6
        have g26 := g3.trans (g5.trans g6)
        obtain ⟨q1, q2, q3⟩ := g26.apart hx hF2 hr2
        have e1 : (if S k = true then acc.length else acc.length + 1) = (addK acc k).length := by rw [hS k]; exact addK_len
        refine ⟨k, S, acc.length, rfl, q1, by unfold scanBound; omega, F6, ro6, m6, addK acc k, fun j => S j || decide (j = k), (g2.trans g26).over hD _, c6.loose q2 q3 _, by rw [upd_same, e1], fun j => ?_, ?_, q2, q3, h6⟩
        · show (S j || decide (j = k)) = _
          rw [hS j]
          by_cases a1 : j ∈ acc <;> by_cases a2 : j = k <;> simp [a1, a2, addK_mem]
        · have := addK_len_le (l := acc) (k := k)
          omega
      · exact fun h => h.elim
    | false =>
      rw [if_neg Bool.false_ne_true] at h5 ⊢
      have g25 := g3.trans g5
      obtain ⟨q1, q2, q3⟩ := g25.apart hx hF2 hr2
      exact ⟨F5, ro5, m5, acc, S, g2.trans g25, c5, q1, hS, few, q2, q3, h5⟩
  · have ei : i = us.length := by omega
    subst ei
    rw [List.drop_length] at h2
    exact .inl ⟨ok.stop F2 ro2 H2 m2 g2 c2 h2.1, q F2 ro2 H2 D S acc m2 (g1.trans g2) c2 hx hS few h2.2⟩
end
/-! ### len({..}), sorted({..}) -/
def dLenSc (s : AI) (g : AG) (tt : AT) (te : AE) (vs : List Nat) : AE := fun E m Q => s E m fun us gd m1 => scU gd g tt te (wipeE E vs) (fun acc m2 => Q (.v (.int acc.length)) m2) us [] m1
def dSortSc (mu : Bool) (s : AI) (g : AG) (tt : AT) (te : AE) (vs : List Nat) : AE := fun E m Q => s E m fun us gd m1 => scU gd g tt te (wipeE E vs) (fun acc m2 => ∀ l : List Int, l.Pairwise (· < ·) → (∀ k, k ∈ l ↔ k ∈ acc) → nw mu (l.map .int) m2 Q) us [] m1
section
variable {X : Cx}
def rLenSet (w : World) : List V → Hp → VK → Prop := fun vs H Q => ∃ (a : Addr) (S : Int → Bool) (n : Nat), vs = [V.ref a] ∧ H a = some (SetO w a S n) ∧ n < 64 ∧ Q (.int n) H
theorem cr_lenSet : CallR X (.builtin "len") (rLenSet X.w) := by
  intro pins s σ H vs us Q I r h
  obtain ⟨a, S, n, rfl, ha, few, q⟩ := h
  rw [Vals.ref1 r]
  obtain ⟨o, es, ep, t, ho, hex, hd, _, _, _, hb, hf, rfl, _⟩ := setO_get I ha
  refine call_len_set ho hex hd hf (by omega) ?_
  exact ⟨.int _, H, (I.tok _).tok _, ⟨_, rfl⟩, q⟩
theorem de_lenSc {elt tg iter : Expr} {ifs : List Expr} {scope : Scope} {own : List (PySem.Str × Nat)} {pos cpos fpos : Pos} {s : AI} {g : TG} {ga : AG} {tt : AT} {te : AE} {vs : List Nat} (hm : X.mg "len" = none) (hc : X.calm = true) (hN : X.N.Nodup) (hi : DI X tg iter s) (ok : BlkOk X.N X.env.scope scope own) (hv : own.map (·.2) = vs) (ho : GOwn X.K g ga vs)
    (hg : ∀ (t : Shared) (G : Hp) (b : Addr) (cl : List (PySem.Str × Addr)) (fp : List Addr), PG (X.blk t G scope (compEnvC scope cl b X.env) fp) tg g) (ht : ∀ (t : Shared) (G : Hp) (b : Addr) (cl : List (PySem.Str × Addr)) (fp : List Addr), DTs (X.blk t G scope (compEnvC scope cl b X.env) fp) ifs tt)
    (he : ∀ (t : Shared) (G : Hp) (b : Addr) (cl : List (PySem.Str × Addr)) (fp : List Addr), DE (X.blk t G scope (compEnvC scope cl b X.env) fp) elt te) (hs : ∀ x, foldedSetIterable iter X.env x = pure x := by intro _; rfl) (hgl : Gl X "len" := by rfl)
    (s1 : starEach [.SetComp elt [⟨tg, iter, ifs, 0⟩] scope pos] X.env = (false, eval (.SetComp elt [⟨tg, iter, ifs, 0⟩] scope pos) X.env) :: starEach [] X.env := by rfl) (t1 : (backTo cpos (starEach [] X.env)).any (·.1) = false := by rfl) :
    DE X (.Call (.Name "len" fpos) [.SetComp elt [⟨tg, iter, ifs, 0⟩] scope pos] [] cpos) (dLenSc s ga tt te vs) := by
  subst hv
  refine pe_imp (pe_callB cr_lenSet hgl hm bt_len (pa_cons (pe_setc (tt := cT X.K tt) (te := cE X.K te) hc hN hi ok hg ht he hs) pa_nil s1) (by decide) (by decide) s1 t1) fun σ H Q ⟨F, ro, E, m, Qa, cm, ce, hf, p⟩ => ?_
  show tSetc X.w (cI X.K s) g (cT X.K tt) (cE X.K te) (own.map (·.2)) σ H fun x G => rLenSet X.w [x] G Q
  refine setc_sim ho cm ce hf fun F1 ro1 G D S acc m1 g1 c1 hD hS few h1 => ?_
  exact ⟨D, S, acc.length, rfl, hD, few, (p.at g1).god c1 (.int _) h1⟩
theorem de_sortSc (mu : Bool) {elt tg iter : Expr} {ifs : List Expr} {scope : Scope} {own : List (PySem.Str × Nat)} {pos cpos fpos : Pos} {s : AI} {g : TG} {ga : AG} {tt : AT} {te : AE} {vs : List Nat} (hm : X.mg "sorted" = none) (hc : X.calm = true) (hN : X.N.Nodup) (hi : DI X tg iter s) (ok : BlkOk X.N X.env.scope scope own) (hv : own.map (·.2) = vs) (ho : GOwn X.K g ga vs)
    (hg : ∀ (t : Shared) (G : Hp) (b : Addr) (cl : List (PySem.Str × Addr)) (fp : List Addr), PG (X.blk t G scope (compEnvC scope cl b X.env) fp) tg g) (ht : ∀ (t : Shared) (G : Hp) (b : Addr) (cl : List (PySem.Str × Addr)) (fp : List Addr), DTs (X.blk t G scope (compEnvC scope cl b X.env) fp) ifs tt)
    (he : ∀ (t : Shared) (G : Hp) (b : Addr) (cl : List (PySem.Str × Addr)) (fp : List Addr), DE (X.blk t G scope (compEnvC scope cl b X.env) fp) elt te) (hs : ∀ x, foldedSetIterable iter X.env x = pure x := by intro _; rfl) (hgl : Gl X "sorted" := by rfl)
    (s1 : starEach [.SetComp elt [⟨tg, iter, ifs, 0⟩] scope pos] X.env = (false, eval (.SetComp elt [⟨tg, iter, ifs, 0⟩] scope pos) X.env) :: starEach [] X.env := by rfl) (t1 : (backTo cpos (starEach [] X.env)).any (·.1) = false := by rfl) :
    DE X (.Call (.Name "sorted" fpos) [.SetComp elt [⟨tg, iter, ifs, 0⟩] scope pos] [] cpos) (dSortSc mu s ga tt te vs) := by
  subst hv
  refine pe_imp (pe_callB (cr_sortedSet hc) hgl hm bt_sorted (pa_cons (pe_setc (tt := cT X.K tt) (te := cE X.K te) hc hN hi ok hg ht he hs) pa_nil s1) (by decide) (by decide) s1 t1) fun σ H Q ⟨F, ro, E, m, Qa, cm, ce, hf, p⟩ => ?_
  show tSetc X.w (cI X.K s) g (cT X.K tt) (cE X.K te) (own.map (·.2)) σ H fun x G => rSortedSet X.w [x] G Q
  refine setc_sim ho cm ce hf fun F1 ro1 G D S acc m1 g1 c1 hD hS few h1 => ?_
  refine ⟨D, S, acc.length, rfl, hD, few, fun ns b pw mem len hb => ?_⟩
  exact (p.at g1).nw c1 mu (IsDs.of_ints ns) (h1 ns pw fun k => (mem k).trans (by rw [hS k]; simp)) b hb
end
end Z
namespace Z
open PySem PySem.Spec PyProof.Rows L2
/-! ### bs.count(b), bools -/
theorem bools_vals : ∀ {bs : List Bool} {us : List Value}, Vals (bs.map V.bl) us → us = bs.map Value.bool
  | [], _, h => by cases h; rfl
  | b :: bs, _, h => by
    cases h with
    | cons a t => rw [bools_vals t]; cases a; rfl
theorem bools_count (k : Bool) : ∀ bs : List Bool, (bs.map Value.bool).countP (isBoolOf k) = bs.count k
  | [] => rfl
  | b :: bs => by
    rw [List.map_cons, List.countP_cons, List.count_cons, bools_count k bs] <;> rfl
section
variable {X : Cx}
def rCntB (K : PySem.W.Frag) : V → List V → Hp → VK → Prop := fun x xs H Q => ∃ (p : Addr) (bs : List Bool) (k : Bool), x = .ref p ∧ xs = [.bl k] ∧ SqL K H p (bs.map V.bl) ∧ Q (.int (bs.count k : Nat)) H
theorem mt_lcountB : MtR X "list.count" (rCntB X.K) := by
  intro pins s σ H x xs v us Q I rx rxs h
  obtain ⟨p, bs, k, rfl, rfl, hs, q⟩ := h
  cases rx
  obtain ⟨u, rfl, ru⟩ := rxs.one
  cases ru
  obtain ⟨its, rv, ⟨o, n, ho, hc, hdn, hd⟩, _⟩ := I.list hs
  cases bools_vals rv
  obtain ⟨cls, dd, data, sl⟩ := o
  simp only at hc hd
  subst hc hd
  refine call_meets F.slot_list_count ⟨_, ho, rfl⟩ F.entry_list_count (F.args_list_count_2 _ _) (SeqAt.list_countAt p (bs.map Value.bool).toArray n dd sl (.bool k) (isBoolOf k)) ⟨ho, fun y hy => ?_, ?_⟩
  · obtain ⟨b, _, rfl⟩ := List.mem_map.mp (show y ∈ bs.map Value.bool by simpa using hy)
    exact SeqAt.EqAt.bool_bool b k
  · refine ⟨.int (bs.count k : Nat), H, I.tok _, ⟨s.toks, ?_⟩, q⟩
    show Value.int (((bs.map Value.bool).countP (isBoolOf k) : Nat) : Int) s.toks = _
    rw [bools_count]
def aCountB : U → List U → Sto → QA → Prop := fun o us m Q => match asQ m o, us with
  | some l, [.v (.bool k)] => (match boolsOf l with
    | some bs => Q (.v (.int (bs.count k : Nat))) m
    | none => False)
  | _, _ => False
theorem sim_countB {K : PySem.W.Frag} : SimM K (rCntB K) aCountB := by
  intro F ro H m o x us vs Q Qa c io iu h p
  unfold aCountB at h
  split at h
  · rename_i l k el
    split at h
    · rename_i bs en
      obtain ⟨a, xs, rfl, r, hd⟩ := asQ_sq c io el
      obtain ⟨v, rfl, i1⟩ := iu1 iu
      cases i1
      rw [boolsOf_eq en] at hd
      rw [hd.bools] at r
      exact ⟨a, bs, k, rfl, rfl, r, p.god c (.int _) h⟩
    · exact h.elim
  · exact h.elim
end
end Z
/-! Y8: defs with a star parameter, starred arguments and targets. -/
namespace Z
open PySem PySem.Spec PyProof.Rows L2 StX
section
variable {P : Program} {w : World} {K : PySem.W.Frag} {mg : Str → Option Value} {base : Heap}
/-- a def's body from its start: the slots, what is handed back -/
theorem start_parts {N : List Str} {F0 : Hp} {ro : List Addr} {H : Hp} {m : Sto} {us' : List U} {vs : List V} {Qa : QA} {Q : VK} (cm : ConM K F0 ro H m) (iu : IsUs K F0 ro us' vs) (hpl : vs.length ≤ N.length) (p : Post K F0 ro H Qa Q) :
    ConE K F0 ro (L2.start N vs) (startU N.length us') ∧ Mat K F0 ro H (endsD m.length Qa) { nx := fun _ H' => Q .non H', rt := Q } := by
  have ce : ConE K F0 ro (L2.start N vs) (startU N.length us') := by
    have hlu : us'.length = vs.length := iu.length
    refine ⟨by unfold L2.start startU; simp; omega, fun i u e => ?_⟩
    have hi : i < us'.length := by
      unfold startU at e
      by_cases hi : i < us'.length
      · exact hi
      · rw [List.getElem?_append_right (by simpa using hi), List.getElem?_replicate] at e
        split at e <;> cases e
    unfold startU at e
    rw [List.getElem?_append_left (by simpa using hi), List.getElem?_map] at e
    have get : ∀ {us : List U} {vs : List V} {i : Nat} {u : U}, IsUs K F0 ro us vs → us[i]? = some u → ∃ v, vs[i]? = some v ∧ IsU K F0 ro u v := by
      intro us vs i u h
      induction h generalizing i with
      | nil => intro e; simp at e
      | cons a b ih =>
        intro e
        cases i with
        | zero => simp at e; subst e; exact ⟨_, rfl, a⟩
        | succ i =>
          obtain ⟨v, q1, q2⟩ := ih (i := i) (by simpa using e)
          exact ⟨v, by simpa using q1, q2⟩
    obtain ⟨u', e1, e2⟩ := Option.map_eq_some_iff.mp e
    cases e2
    obtain ⟨v, q1, q2⟩ := get iu e1
    refine ⟨v, ?_, q2⟩
    unfold L2.start
    rw [List.getElem?_append_left (by simp; omega), List.getElem?_map, q1]
    rfl
  have fin : ∀ (F' : Hp) (ro' : List Addr) (H' : Hp) (u : U) (v : V) (m' : Sto), Gro F0 ro H F' ro' H' → ConM K F' ro' H' m' → IsU K F' ro' u v → retD m.length Qa u m' → Q v H' := fun F' ro' H' u v m' g' c' i' q' => by
    obtain ⟨t, et, nt⟩ := g'.more
    subst et
    have cc := c'.cut
    rw [cm.len] at cc
    cases u with
    | v d => exact p F' ro H' (.v d) v _ g'.cut cc i' q'
    | s ns => exact q'.elim
    | o t => exact p F' ro H' (.o t) v _ g'.cut cc i' q'
    | r k =>
      obtain ⟨b, e1, e2⟩ := i'
      by_cases hk : k < m.length
      · have q2 : Qa (.r k) (m'.take m.length) := by
          have q3 := q'
          unfold retD at q3
          simp only [hk, if_true] at q3
          exact q3
        rw [List.getElem?_append_left (by rw [cm.len]; exact hk)] at e1
        exact p F' ro H' (.r k) v _ g'.cut cc ⟨b, e1, e2⟩ q2
      · have q3 := q'
        unfold retD at q3
        simp only [hk, if_false] at q3
        split at q3
        · rename_i l el
          obtain ⟨hF, xs, hx, hd⟩ : CellOk K F' H' b (.lst l) := c'.cell k b _ e1 el
          have hb : b ∈ t := by
            rw [List.getElem?_append_right (by rw [cm.len]; omega)] at e1
            exact List.mem_of_getElem? e1
          have hnr : b ∉ ro := fun z => (List.nodup_append.mp c'.nd).2.2 b z b hb rfl
          have c2 := cc.adopt hx hF hnr hd
          have g2 : Gro F0 ro H F' (ro ++ [b]) H' := ⟨g'.ex, ⟨[b], rfl, fun a ha => by
            have ea : a = b := by simpa using ha
            rw [ea]; exact nt b hb⟩, g'.fr, g'.st⟩
          exact p F' (ro ++ [b]) H' (.r m.length) v _ g2 c2 ⟨b, by rw [← cm.len, List.getElem?_append_right (Nat.le_refl _)]; simp, e2⟩ q3
        · rename_i l el
          obtain ⟨hF, xs, hx, hd⟩ : CellOk K F' H' b (.dct l) := c'.cell k b _ e1 el
          have hb : b ∈ t := by
            rw [List.getElem?_append_right (by rw [cm.len]; omega)] at e1
            exact List.mem_of_getElem? e1
          have hnr : b ∉ ro := fun z => (List.nodup_append.mp c'.nd).2.2 b z b hb rfl
          have c2 := cc.dctAdopt hx hF hnr hd
          have g2 : Gro F0 ro H F' (ro ++ [b]) H' := ⟨g'.ex, ⟨[b], rfl, fun a ha => by
            have ea : a = b := by simpa using ha
            rw [ea]; exact nt b hb⟩, g'.fr, g'.st⟩
          exact p F' (ro ++ [b]) H' (.r m.length) v _ g2 c2 ⟨b, by rw [← cm.len, List.getElem?_append_right (Nat.le_refl _)]; simp, e2⟩ q3
        · exact q3.elim
  exact ⟨ce, fun F' ro' H' σ' E' m' g' c' _ q' => fin F' ro' H' (.v .none) .non m' g' c' .non q', fun F' ro' H' u v m' g' c' i' q' => fin F' ro' H' u v m' g' c' i' q', fun _ _ _ _ _ _ _ _ _ q => q.elim, fun _ _ _ _ _ _ _ _ _ q => q.elim⟩
theorem start_cS {N : List Str} {F0 : Hp} {ro : List Addr} {H : Hp} {m : Sto} {us' : List U} {vs : List V} {g : AS} {Qa : QA} {Q : VK} (cm : ConM K F0 ro H m) (iu : IsUs K F0 ro us' vs) (hpl : vs.length ≤ N.length) (hg : g (endsD m.length Qa) (startU N.length us') m) (p : Post K F0 ro H Qa Q) :
    cS K g { nx := fun _ H' => Q .non H', rt := Q } (L2.start N vs) H :=
  ⟨F0, ro, startU N.length us', m, endsD m.length Qa, cm, (start_parts cm iu hpl p).1, hg, (start_parts cm iu hpl p).2⟩
/-- a def that keeps a promise, told of plain arguments -/
structure FnS (P : Program) (w : World) (K : PySem.W.Frag) (mg : Str → Option Value) (base : Heap) (k : Nat) (f : Addr) (a : ASp) : Prop where
  run : ∀ (A : Around) (outer : List Env) (s : Shared) (H : Hp) (us : List Value) (vs : List V) (Q : VK) (E : XK), Room k A → A.guards = some [] → Env0 P w K mg base A outer s H → Vals vs us → cSp K a vs H Q E →
    codeAny (model P w) A (.call (.ref f) ⟨us, []⟩) (CR CX0 outer P w H s Q E) s
structure DfnS (K : PySem.W.Frag) (mg : Str → Option Value) (x : Str) (st : Stmt) (ps : List Str) (pv : Str) : Prop where
  ex : ∃ f fd, Fun K x x st f fd ∧ mg x = some (.ref f) ∧ ∀ us rest : List Value, us.length = ps.length → bindArgs fd ⟨us ++ rest, []⟩ = (newTuple rest >>= fun t => pure (ps.zip us ++ [(pv, t)]))
structure CalS (P : Program) (w : World) (K : PySem.W.Frag) (mg : Str → Option Value) (base : Heap) (k : Nat) (x : Str) (a : ASp) : Prop where
  ex : ∃ f, FnS P w K mg base k f a ∧ mg x = some (.ref f) ∧ PySem.W.keepIn K (.ref f) = true
theorem isUs_split : ∀ {ws : List U} {ds : List PyData} {F : Hp} {ro : List Addr} {vs : List V}, IsUs K F ro (ws ++ ds.map U.v) vs → ∃ v1 v2, vs = v1 ++ v2 ∧ IsUs K F ro ws v1 ∧ IsDs K F v2 ds
  | [], [], _, _, _, h => by cases h; exact ⟨[], [], rfl, .nil, .nil⟩
  | [], d :: ds, _, _, _, h => by
    cases h with
    | cons a t =>
      obtain ⟨v1, v2, e, i1, i2⟩ := isUs_split (ws := []) (ds := ds) t
      cases i1
      exact ⟨[], _ :: v2, by rw [e]; rfl, .nil, .cons a i2⟩
  | w :: ws, ds, _, _, _, h => by
    cases h with
    | cons a t =>
      obtain ⟨v1, v2, e, i1, i2⟩ := isUs_split (ws := ws) (ds := ds) t
      exact ⟨_ :: v1, v2, by rw [e]; rfl, .cons a i1, i2⟩
theorem isUs_app : ∀ {ws us : List U} {F : Hp} {ro : List Addr} {v1 v2 : List V}, IsUs K F ro ws v1 → IsUs K F ro us v2 → IsUs K F ro (ws ++ us) (v1 ++ v2)
  | [], _, _, _, _, _, h, k => by cases h; exact k
  | w :: ws, _, _, _, _, _, h, k => by
    cases h with
    | cons a t => exact .cons a (isUs_app t k)
theorem CalS.mk' {k : Nat} {x : Str} {st : Stmt} {ps : List Str} {pv : Str} {a : ASp} {N : List Str} {g : AS} (d : DfnS K mg x st ps pv) (S : FnScope N (ps ++ [pv]) (defScope st))
    (body : ∀ (f : Addr) (cdv : Value) (A : Around) (outer : List Env) (s : Shared) (H : Hp) (E : XK), Room k (A.deeper (envOfC x (defScope st) s.heap.objs.size f cdv)) → (A.deeper (envOfC x (defScope st) s.heap.objs.size f cdv)).guards = some [] →
      DSs (cxOf CX0 P w K mg base N x (defScope st) f cdv A outer s H E).nox (defBody st) g)
    (sem : ∀ us m Q, a us m Q → ∃ (ws : List U) (ds : List PyData), us = ws ++ ds.map U.v ∧ ws.length = ps.length ∧ ds.length ≤ sizeLine ∧ g (endsD m.length Q) (startU N.length (ws ++ [.v (.tuple ds)])) m) : CalS P w K mg base (k + 1) x a := by
  obtain ⟨f, fd, Fn, hm, hb⟩ := d.ex
  refine ⟨f, ⟨fun A outer s H us vs Q E hr hg e0 r hsp => ?_⟩, hm, Fn.kp⟩
  obtain ⟨oc, od, kV, doc, pm, an, cdv, ct, osl, rfl, lk, hcd⟩ := Fn.ex
  obtain ⟨F0, ro, m, us', Qa, cm, iu, ha, p⟩ := hsp
  obtain ⟨ws, ds, rfl, hl, hz, hgg⟩ := sem _ _ _ ha
  obtain ⟨v1, v2, rfl, i1, i2⟩ := isUs_split iu
  obtain ⟨u1, u2, rfl, r1, r2⟩ := vals_split r
  have nH : H s.heap.objs.size = none := e0.hok.fresh (Nat.le_refl _)
  have l1 : v1.length = ps.length := by rw [← i1.length]; exact hl
  have l2 : u1.length = ps.length := by rw [← r1.length]; exact l1
  have z2 : v2.length ≤ sizeLine := by rw [i2.length]; exact hz
  have z3 : u2.length ≤ sizeLine := by rw [← r2.length]; exact z2
  have hpl : (ps ++ [pv]).length ≤ N.length := by have := congrArg List.length S.pre; rw [List.length_take] at this; omega
  refine run_bnd lk hcd S hr e0 (G := fun xs G2 => ∃ q, H q = none ∧ xs = v1 ++ [V.ref q] ∧ G2 = upd H q (.tup v2)) (fun A' Ex R h => ?_) fun s2 G2 xs hx hr' => ?_
  · rw [hb u1 u2 l2]
    refine wpAny_bind (wpAny_newTuple (wpAny_pure ?_) z3)
    have made : ObjOk P w (upd H s.heap.objs.size (.tup v2)) (s.heap.push ({ cls := .type "tuple", data := .seq u2.toArray } : Obj)) s.heap.objs.size (.tup v2) := ⟨z2, u2, r2, _, Heap.get?_push_size _ rfl, rfl, _, rfl⟩
    have y := h { s with heap := s.heap.push ({ cls := .type "tuple", data := .seq u2.toArray } : Obj) } (upd H s.heap.objs.size (.tup v2)) (v1 ++ [V.ref s.heap.objs.size]) (u1 ++ [Value.ref s.heap.objs.size]) (env0_laid e0 made) (un_laid nH) rfl (fun _ _ z => z) (r1.append (.cons rfl .nil)) (by simp [l1]) ⟨_, nH, rfl, rfl⟩
    rw [List.zip_append l2.symm] at y
    exact y
  · obtain ⟨q, hq, rfl, rfl⟩ := hx
    obtain ⟨c2, g2⟩ := cm.known hq (.tup v2)
    have it : IsU K (upd F0 q (.tup v2)) ro (.v (.tuple ds)) (.ref q) := IsD.tup (.inl upd_same) (IsDs.mono g2.ex i2)
    refine ⟨cS K g, PSs.nox (body f cdv A outer s2 _ E hr' hg), ?_⟩
    exact start_cS c2 (isUs_app (i1.mono g2) (.cons it .nil)) (by simp at hpl ⊢; omega) hgg (p.at g2)
theorem DfnS.mk' {h : Heap} {x : Str} {st : Stmt} {ps : List Str} {pv : Str} {f : Addr} {od an : Option Addr} {sl : Array (Option Value)} {oc kV dc pm cd ct : Value} (X : K.In h) (G : h.Ns mainGlobals mg)
    (a1 : PySem.W.nsIn K mainGlobals x = some (some (.ref f))) (l1 : K.lookup f = some ⟨oc, od, .func (PySem.W.fnOf x x (defArgs st) (defBody st) (defScope st) .none kV dc pm an cd ct), sl⟩) (c1 : PySem.W.codeIn K cd x = true) (k1 : PySem.W.keepIn K (.ref f) = true)
    (hb : ∀ (kV doc pm : Value) (an : Option Addr) (cdv ct : Value) (us rest : List Value), us.length = ps.length → bindArgs (PySem.W.fnOf x x (defArgs st) (defBody st) (defScope st) .none kV doc pm an cdv ct) ⟨us ++ rest, []⟩ = (newTuple rest >>= fun t => pure (ps.zip us ++ [(pv, t)]))) : DfnS K mg x st ps pv :=
  ⟨f, _, fun_mk l1 c1 k1, PySem.W.mg_of X G a1, fun us rest hl => hb _ _ _ _ _ _ us rest hl⟩
end
/-! ### calls -/
section
variable {X : Cx} {k j : Nat} {a : ASp} {x : Str} {p pos sp_ : Pos} {e : Expr} {es : List Expr} {g : AA} {f : AE}
theorem run_fnS {pins : List (Addr × Obj)} {σ : L2.St} {H : Hp} {s : Shared} {Q : VK} {us : List Value} {vs : List V} {q : Addr} (F : FnS X.prog X.w X.K X.mg X.base k q a) (hr : Room k X.A) (hg : X.A.guards = some [])
    (I : Inv X pins σ H s) (r : Vals vs us) (h : cSp X.K a vs H Q E0) : wpAny (model X.prog X.w) X.A (call (.ref q) us) (EP X pins σ Q) X.xe s := by
  refine wpAny_call (codeAny_mono (F.run X.A X.stack s H us vs Q E0 hr hg I.env0 r h) fun r s' hq => ?_)
  cases r with
  | error e => exact hq.elim
  | ok fl =>
    cases fl with
    | ret u => exact I.after hq
    | next => exact hq.elim
    | brk => exact hq.elim
    | cont => exact hq.elim
theorem de_calS (c : CalS X.prog X.w X.K X.mg X.base k x a) (hr : Room j X.A) (hgd : X.A.guards = some []) (ha : DA X (e :: es) g) (hk : k ≤ j := by decide) (hg : Gl X x := by rfl)
    (hdb : (x == ("__debug__" : Str)) = false := by decide) (he : starEach (e :: es) X.env = (false, eval e X.env) :: starEach es X.env := by rfl) (hpl : (backTo pos (starEach es X.env)).any (·.1) = false := by rfl) :
    DE X (.Call (.Name x p) (e :: es) [] pos) (dCall a g) := by
  obtain ⟨q, F, hm, kp⟩ := c.ex
  refine ⟨fun pins s σ H Q I h => ?_⟩
  obtain ⟨F0, ro, E, m, Qa, cm, ce, hf, p⟩ := h
  refine wpAny_Call_Name_kw (ld_glob I hg hm ?_ hdb)
  refine PySem.W.callWith_K (h₀ := X.base) I.ok.mod.kin kp (thn (ha.run pos pins s σ H (fun vs H1 => cSp X.K a vs H1 Q E0) I ⟨F0, ro, E, m, _, cm, ce, hf, fun F1 ro1 H1 us vs m1 g1 c1 i1 h1 => ⟨F1, ro1, m1, us, Qa, c1, i1, h1, p.at g1⟩⟩) fun us s1 ⟨vs, H1, I1, r, q1⟩ => ⟨I1.kIn, ?_⟩) he hpl
  exact run_fnS F (hr.mono hk) hgd I1 r q1
/-- x(*e), e a tuple of data -/
def dCallT (a : ASp) (t : AE) : AE := fun E m Q => t E m fun u m1 => match u with
  | .v (.tuple ds) => a (ds.map .v) m1 Q
  | _ => False
theorem isUs_ds {K : PySem.W.Frag} {F : Hp} {ro : List Addr} : ∀ {ds : List PyData} {vs : List V}, IsDs K F vs ds → IsUs K F ro (ds.map U.v) vs
  | _, _, .nil => .nil
  | _, _, .cons a t => .cons a (isUs_ds t)
theorem de_calT (c : CalS X.prog X.w X.K X.mg X.base k x a) (hr : Room j X.A) (hgd : X.A.guards = some []) (ha : DE X e f) (hk : k ≤ j := by decide) (hg : Gl X x := by rfl)
    (hdb : (x == ("__debug__" : Str)) = false := by decide) (hst : starEach [.Starred e sp_] X.env = [(true, eval e X.env)] := by rfl) :
    DE X (.Call (.Name x p) [.Starred e sp_] [] pos) (dCallT a f) := by
  obtain ⟨q, F, hm, kp⟩ := c.ex
  refine ⟨fun pins s σ H Q I h => ?_⟩
  obtain ⟨F0, ro, E, m, Qa, cm, ce, hf, p⟩ := h
  refine wpAny_Call_Name_kw (ld_glob I hg hm ?_ hdb)
  refine PySem.W.callWith_S (h₀ := X.base) I.ok.mod.kin kp (thn (ha.run pins s σ H (fun v H1 => ∃ b xs, v = V.ref b ∧ SqT X.K H1 b xs ∧ cSp X.K a xs H1 Q E0) I ⟨F0, ro, E, m, _, cm, ce, hf, fun F1 ro1 H1 u v m1 g1 c1 i1 h1 => ?_⟩) fun v s1 ⟨y, H1, I1, ry, b, xs, ey, hx, q1⟩ => ?_) hst
  · revert h1
    dsimp only
    split
    · rename_i ds
      intro h1
      cases i1 with
      | tup h2 h3 => exact ⟨_, _, rfl, .inl (rd_mono c1.ex h2), F1, ro1, m1, ds.map U.v, Qa, c1, isUs_ds h3, h1, p.at g1⟩
    · exact fun h => h.elim
  · subst ey
    cases ry
    exact star_any I1 (.inl hx) fun us s2 I2 rv => ⟨I2.kIn, run_fnS F (hr.mono hk) hgd I2 rv q1⟩
end
end Z
namespace Z
open PySem PySem.Spec PyProof.Rows L2 PySem.W
/-! ### a, *b = t -/
section
variable {prog : Program} {w : World} {A : Around} {E : Value → Shared → Prop} {s : Shared}
theorem head_rest {t : Addr} {vs : Array Value} {Q : List Value → Shared → Prop} (ht : IsTup s.heap t vs) (calm : A.handled = none) (one : 1 ≤ vs.size) (few : vs.size ≤ 16384)
    (q : ∀ (g : Heap) (n : Nat), (∀ b o, s.heap.get? b = some o → g.get? b = some o) → Q (vs.toList.take 1 ++ [.ref g.objs.size] ++ []) { s with heap := g.push { cls := .type "list", data := .seq (vs.toList.drop 1).toArray }, toks := n }) :
    wpAny (model prog w) A (unpackItems (.ref t) 2 (some 1)) Q E s := by
  have sm : t < s.heap.objs.size := let ⟨_, e, _⟩ := ht; Heap.lt_size e
  have ne : t ≠ s.heap.objs.size := Nat.ne_of_lt sm
  unfold unpackItems
  refine wpAny_bind ?_
  unfold notIterableAtAll
  refine wpAny_bind (wpAny_specialOf ht.typeIs slot_tuple_iter.lookup (wpAny_pure ?_))
  simp only [Bool.false_eq_true, if_false]
  refine wpAny_bind (wpAny_holding (iter_tuple ht (wpAny_bind (wpAny_holding (draw_tuple ne 1 0 _ _ ⟨_, Heap.get?_push_size _ rfl, rfl, rfl⟩ (ht.push _) (by omega) fun g1 it1 same1 => ?_)))))
  have t1 : IsTup g1 t vs := (ht.push _).extBut same1.extBut ne
  have it2 : IsTupIter g1 s.heap.objs.size t 1 := it1
  have b1 : s.heap.objs.size < g1.objs.size := let ⟨_, e, _⟩ := it2; Heap.lt_size e
  have b2 : t < g1.objs.size := let ⟨_, e, _⟩ := t1; Heap.lt_size e
  have len1 : (vs.toList.take 1).length = 1 := by rw [List.length_take, Array.length_toList]; omega
  rw [List.drop_zero, if_neg (by rw [len1]; exact Nat.lt_irrefl 1)]
  refine wpAny_bind (wpAny_holding (kun_collect (s := { s with heap := g1 }) (T := "tuple_iterator") (.inr (.inr (.inr rfl))) (Walks.tuple (A := A.in1) calm s.heap.objs.size t ne vs) (fun _ _ st => st.1.typeIs) (k := 1) one ⟨it2, t1⟩ b1 b2 (fun g2 n2 kept => ?_) (by rw [sizeLine_eq]; omega)))
  have len2 : (vs.toList.drop 1).length = vs.size - 1 := by rw [List.length_drop, Array.length_toList]
  show wpAny _ _ (if (vs.toList.drop 1).length < 2 - 1 - 1 then _ else _) _ _ _
  rw [if_neg (by omega)]
  show wpAny _ _ (newList ((vs.toList.drop 1).take ((vs.toList.drop 1).length - (2 - 1 - 1))) >>= fun d => pure (vs.toList.take 1 ++ [d] ++ (vs.toList.drop 1).drop ((vs.toList.drop 1).length - (2 - 1 - 1)))) _ _ _
  rw [show (vs.toList.drop 1).length - (2 - 1 - 1) = (vs.toList.drop 1).length from rfl, List.take_length, List.drop_length]
  exact wpAny_bind (wpAny_newList (wpAny_pure (q g2 n2 fun b o e => kept b o (Nat.ne_of_lt (Heap.lt_size e)) (same1.extBut b o (Nat.ne_of_lt (Heap.lt_size e)) (Heap.get?_push_of_some _ e)))) (by rw [len2, sizeLine_eq]; omega))
end
section
variable {X : Cx}
/-- (a, *b) = a tuple; b is data -/
def gHead (K : PySem.W.Frag) (i j : Nat) : TG := fun v σ H Q => ∃ t x xs, v = .ref t ∧ SqT K H t (x :: xs) ∧ xs.length < 16000 ∧ ∀ D, H D = none → Q ((σ.set i (some x)).set j (some (.ref D))) (upd H D (.lst xs))
theorem pg_head {e1 e2 : Expr} {k : Nat} {pos p2 : Pos} {i j : Nat} (calm : X.calm = true) (h1 : PG X e1 (gName i)) (h2 : PG X e2 (gName j)) (hn : (assignEach [e1, .Starred e2 p2] X.env).length = 2 := by rfl) (hst : (assignEach [e1, .Starred e2 p2] X.env).findIdx? (·.1) = some 1 := by rfl)
    (ha : (assignEach [e1, .Starred e2 p2] X.env).map (·.2) = [assign e1 X.env, assign e2 X.env] := by rfl) : PG X (.Tuple [e1, .Starred e2 p2] k pos) (gHead X.K i j) := by
  refine ⟨fun pins s σ H v u Q I r hw => ?_⟩
  obtain ⟨t, x, xs, rfl, ht, few, q⟩ := hw
  cases r
  obtain ⟨its, rv, ot, _⟩ := I.tuple ht
  cases rv with
  | cons r1 r2 =>
    rename_i u1 us
    rw [arm_assign_Tuple]
    refine wpAny_bind (wpAny_standAt ?_)
    unfold unpack
    rw [hn, hst, ha]
    have ln := r2.length
    refine wpAny_bind (wpAny_holding (head_rest ot (I.ok.hd calm) (by simp) (by simp; omega) fun g n kept => ?_))
    have I1 : Inv X pins σ H { s with heap := g, toks := n } := I.kept (t' := n) kept
    have hD : H g.objs.size = none := I1.hok.fresh (Nat.le_refl _)
    have I2 : Inv X pins σ (upd H g.objs.size (.lst xs)) { s with heap := g.push { cls := .type "list", data := .seq us.toArray }, toks := n } :=
      I1.laid (t' := n) (fun b o e => Heap.get?_push_of_some _ e) (Nat.le_refl _) ⟨by rw [sizeLine_eq]; omega, us, 0, r2, Heap.get?_push_size _ rfl⟩
    refine assignInOrder_cons (thn (h1.run pins _ σ _ x u1 (fun τ G => τ = σ.set i (some x) ∧ G = upd H g.objs.size (.lst xs)) I2 r1 ⟨rfl, rfl⟩) fun _ s2 ⟨τ, G, I3, e⟩ => ?_)
    obtain ⟨rfl, rfl⟩ := e
    exact assignInOrder_cons (thn (h2.run pins s2 _ _ (.ref g.objs.size) (.ref g.objs.size) Q I3 rfl (q g.objs.size hD)) fun _ s3 z => assignInOrder_nil z)
/-- a, *b = chains -/
def dAsgHead (i j : Nat) (t : AE) : AS := fun D E m => t E m fun u m1 => match u with
  | .v (.tuple (d :: ds)) => ds.length < 16000 ∧ D.nx ((E.set i (some (.v d))).set j (some (.v (.list ds)))) m1
  | _ => False
theorem ds_head {e1 e2 : Expr} {k : Nat} {tpos p2 pos : Pos} {i j : Nat} {e : Expr} {fe : AE} (calm : X.calm = true) (he : DE X e fe) (h1 : PG X e1 (gName i)) (h2 : PG X e2 (gName j)) (hn : (assignEach [e1, .Starred e2 p2] X.env).length = 2 := by rfl) (hst : (assignEach [e1, .Starred e2 p2] X.env).findIdx? (·.1) = some 1 := by rfl)
    (ha : (assignEach [e1, .Starred e2 p2] X.env).map (·.2) = [assign e1 X.env, assign e2 X.env] := by rfl) (hs : swapsWithSole [.Tuple [e1, .Starred e2 p2] k tpos] e pos.line X.env = pure false := by rfl) (hw : swappedStores [.Tuple [e1, .Starred e2 p2] k tpos] e X.env = pure none := by rfl)
    (ho : (assignEach [.Tuple [e1, .Starred e2 p2] k tpos] X.env).map (·.2) = [assign (.Tuple [e1, .Starred e2 p2] k tpos) X.env] := by rfl) : DS X (.Assign [.Tuple [e1, .Starred e2 p2] k tpos] e pos) (dAsgHead i j fe) :=
  ps_imp (ps_asg he (pg_head calm h1 h2 hn hst ha) hs hw ho) fun D σ H ⟨F, ro, E, m, Da, c, ce, hf, p⟩ => ⟨F, ro, E, m, _, c, ce, hf, fun F1 ro1 H1 u v m1 g1 c1 i1 h1 => by
    revert h1
    dsimp only
    split
    · rename_i d ds
      rintro ⟨few, h1⟩
      cases i1 with
      | tup hx hd =>
        cases hd with
        | cons a t =>
          refine ⟨_, _, _, rfl, .inl (rd_mono c1.ex hx), by rw [t.length]; exact few, fun b hb => ?_⟩
          obtain ⟨c2, g2⟩ := c1.known hb (.lst _)
          exact p.nx _ _ _ _ _ _ (g1.trans g2) c2 (((ce.mono (g1.trans g2)).set i (u := .v d) (IsU.mono g2 (show IsU _ _ _ (.v d) _ from a))).set j (u := .v (.list ds)) (IsD.lst upd_same (IsDs.mono g2.ex t))) h1
    · exact fun h => h.elim⟩
end
end Z
namespace Z
open PySem PySem.Spec PyProof.Rows L2
/-! ### a comprehension within another one -/
theorem look_rel {env : Env} {x : Str} : ∀ {names : List (Str × NameKind)}, (names.lookup x = some .cell ∨ names.lookup x = some .free) →
    (names.map fun (n, k) => if (k == NameKind.free && env.scope.kind == .function && env.kindOf n == some .cell) then (n, NameKind.cell) else (n, k)).lookup x = some .cell ∨
    (names.map fun (n, k) => if (k == NameKind.free && env.scope.kind == .function && env.kindOf n == some .cell) then (n, NameKind.cell) else (n, k)).lookup x = some .free
  | [], h => by simp at h
  | (n, k) :: r, h => by
    have ih := look_rel (env := env) (x := x) (names := r)
    rw [List.map_cons]
    by_cases c : (k == NameKind.free && env.scope.kind == .function && env.kindOf n == some .cell) = true
    · simp only [c, if_true]
      cases e : x == n with
      | true => exact .inl (by simp [List.lookup_cons, e])
      | false =>
        simp only [List.lookup_cons, e] at h ⊢
        exact ih h
    · simp only [c, if_false, Bool.false_eq_true]
      cases e : x == n with
      | true =>
        simp only [List.lookup_cons, e] at h ⊢
        exact h
      | false =>
        simp only [List.lookup_cons, e] at h ⊢
        exact ih h
theorem blkOk_in {N : List Str} {sc scope : Scope} {own : List (Str × Nat)} {env : Env} (h : blkC N sc scope own = true) : BlkOk N (relabel sc env) scope own := by
  have b := blkOk_by h
  exact ⟨b.kind, b.uniq, b.ix, fun y hy e => look_rel (b.free y hy e), b.own⟩
end Z
/-! Y9: data compared by order. -/
namespace Z
open PySem PySem.Spec PyProof.Rows L2
def rCmpD (K : PySem.W.Frag) (f : PyData → PyData → Bool) : R2 := fun x y H Q => ∃ d e, IsD K H x d ∧ IsD K H y e ∧ d.showable = true ∧ d.shown.length ≤ sizeLine ∧ e.showable = true ∧ e.shown.length ≤ sizeLine ∧ PySem.W.alike d e = true ∧ d ≠ .none ∧ min d.depth e.depth ≤ 64 ∧ Q (.bl (f d e)) H
section
variable {X : Cx}
theorem op_cmpD {op : CmpOp} {f : PyData → PyData → Bool} (hu : X.A.units + 66 < cLine)
    (rule : ∀ {E : Value → Shared → Prop} {s : Shared} {a b : Value} {da db : PyData} {as bs : List Addr} {Q : Value → Shared → Prop}, Reads s.heap a da as → Reads s.heap b db bs → PySem.W.alike da db = true → da ≠ .none → X.A.units + min da.depth db.depth < cLine → Q (.bool (f da db)) s → wpAny (model X.prog X.w) X.A (compareOp op a b) Q E s) :
    OpR X (compareOp op) (rCmpD X.K f) := by
  intro pins s σ H x y v u Q I rx ry h
  obtain ⟨d, e, hd, he, d1, d2, e1, e2, al, ne, dp, q⟩ := h
  obtain ⟨as, _, ra, _⟩ := IsD.rk I hd rx d1 d2
  obtain ⟨bs, _, rb, _⟩ := IsD.rk I he ry e1 e2
  exact rule ra rb al ne (by omega) ⟨.bl _, H, I, rfl, q⟩
theorem op_leD (hu : X.A.units + 66 < cLine) : OpR X (compareOp .LtE) (rCmpD X.K fun d e => !PySem.W.dataLt e d) := op_cmpD hu fun a b c d e f => PySem.W.le_data a b c d e f
theorem op_geD (hu : X.A.units + 66 < cLine) : OpR X (compareOp .GtE) (rCmpD X.K fun d e => !PySem.W.dataLt d e) := op_cmpD hu fun a b c d e f => PySem.W.ge_data a b c d e f
theorem op_ltD (hu : X.A.units + 66 < cLine) : OpR X (compareOp .Lt) (rCmpD X.K fun d e => PySem.W.dataLt d e) := op_cmpD hu fun a b c d e f => PySem.W.lt_data a b c d e f
theorem op_gtD (hu : X.A.units + 66 < cLine) : OpR X (compareOp .Gt) (rCmpD X.K fun d e => PySem.W.dataLt e d) := op_cmpD hu fun a b c d e f => PySem.W.gt_data a b c d e f
def aCmpD (f : PyData → PyData → Bool) : R2A := fun a b m Q => match asD m a, asD m b with
  | some d, some e => d.showable = true ∧ d.shown.length ≤ sizeLine ∧ e.showable = true ∧ e.shown.length ≤ sizeLine ∧ PySem.W.alike d e = true ∧ d ≠ .none ∧ min d.depth e.depth ≤ 64 ∧ Q (.v (.bool (f d e))) m
  | _, _ => False
theorem sim_cmpD {K : PySem.W.Frag} (f : PyData → PyData → Bool) : Sim2 K (rCmpD K f) (aCmpD f) := by
  intro F ro H m a b v w Q Qa c i1 i2 h p
  unfold aCmpD at h
  split at h
  · rename_i d e ed ee
    obtain ⟨h1, h2, h3, h4, h5, h6, h7, q⟩ := h
    exact ⟨d, e, asD_is c i1 ed, asD_is c i2 ee, h1, h2, h3, h4, h5, h6, h7, p.god c (.bl _) q⟩
  · exact h.elim
end
/-- ints, one after the other -/
def ltI : List Int → List Int → Bool
  | _, [] => false
  | [], _ :: _ => true
  | x :: xs, y :: ys => if x = y then ltI xs ys else decide (x < y)
theorem lex_ints : ∀ xs ys : List Int, PyProof.Rows.lexLt itemOrd (PySem.W.keyToksAll (xs.map .int)) (PySem.W.keyToksAll (ys.map .int)) = ltI xs ys
  | [], [] => lex_irrefl _
  | [], y :: ys => by
    rw [← PySem.W.firstLt_toks (([] : List Int).map .int) ((y :: ys).map .int) rfl]
    simp [SeqAt.firstLt, ltI]
  | x :: xs, [] => by
    rw [← PySem.W.firstLt_toks ((x :: xs).map .int) (([] : List Int).map .int) rfl]
    simp [SeqAt.firstLt, ltI]
  | x :: xs, y :: ys => by
    rw [List.map_cons, List.map_cons, ltI]
    by_cases h : x = y
    · rw [PySem.W.dataLt_all_yes (x := .int x) (y := .int y) rfl (by simp [PyData.eqv, h]), if_pos h, lex_ints xs ys]
    · rw [PySem.W.dataLt_all_no (x := .int x) (y := .int y) rfl (by simpa [PyData.eqv] using h), if_neg h, PySem.W.dataLt_int]
theorem dataLt_ints (xs ys : List Int) : PySem.W.dataLt (.list (xs.map .int)) (.list (ys.map .int)) = ltI xs ys := by
  rw [← lex_ints]
  rfl
theorem alike_ints : ∀ xs ys : List Int, PySem.W.alikeAll (xs.map .int) (ys.map .int) = true
  | [], _ => rfl
  | _ :: _, [] => rfl
  | x :: xs, y :: ys => by
    rw [List.map_cons, List.map_cons, PySem.W.alikeAll, alike_ints xs ys]
    rfl
end Z
namespace Z
open PySem PySem.Spec PyProof.Rows L2
/-! ### list(range(a, b, -1)) -/
def dnV (i : Int) (n : Nat) : List V := (List.range n).map fun (k : Nat) => V.int (i - (k : Int))
def dnI (i : Int) (n : Nat) : List Int := (List.range n).map fun (k : Nat) => i - (k : Int)
theorem vals_dn {i : Int} {n : Nat} {acc : Array Value} (h : ItemsOf (fun k v => ∃ t, v = .int (i + (k : Int) * (-1)) t) acc n) : Vals (dnV i n) acc.toList := by
  have len : (dnV i n).length = acc.toList.length := by simp [dnV, h.1]
  have go : ∀ (vs : List V) (us : List Value), vs.length = us.length → (∀ (k : Nat) v u, vs[k]? = some v → us[k]? = some u → RelV v u) → Vals vs us := by
    intro vs
    induction vs with
    | nil =>
      intro us hl _
      cases us with
      | nil => exact .nil
      | cons a b => simp at hl
    | cons v vs ih =>
      intro us hl hr
      cases us with
      | nil => simp at hl
      | cons u us => exact .cons (hr 0 v u rfl rfl) (ih us (by simpa using hl) fun k v' u' a b => hr (k + 1) v' u' (by simpa using a) (by simpa using b))
  refine go _ _ len fun k v u hv hu => ?_
  unfold dnV at hv
  rw [List.getElem?_map] at hv
  obtain ⟨k', e1, e2⟩ := Option.map_eq_some_iff.mp hv
  obtain ⟨_, e3⟩ := List.getElem?_eq_some_iff.mp e1
  simp at e3
  subst e3 e2
  obtain ⟨t, rfl⟩ := h.2 k u (by rw [← Array.getElem?_toList]; exact hu)
  exact ⟨t, by rw [show i + (k : Int) * (-1) = i - (k : Int) by omega]⟩
section
variable {X : Cx}
def tLRgD (ta : TA) : TE := fun σ H Q => ta σ H fun vs H1 => ∃ i j n, vs = [.int i, .int j, .int (-1)] ∧ RgC i j (-1) n ∧ n ≤ 2 ^ 24 ∧ ∀ q, H1 q = none → Q (.ref q) (upd H1 q (.lst (dnV i n)))
theorem pe_lRgD {a b c : Expr} {ta : TA} {p p2 pos pos2 : Pos} (calm : X.calm = true) (gl : Gl X "list") (ml : X.mg "list" = none) (gr : Gl X "range") (mr : X.mg "range" = none) (ha : PA X [a, b, c] ta)
    (s1 : starEach [.Call (.Name "range" p2) [a, b, c] [] pos2] X.env = (false, eval (.Call (.Name "range" p2) [a, b, c] [] pos2) X.env) :: starEach [] X.env := by rfl)
    (s2 : starEach [a, b, c] X.env = (false, eval a X.env) :: starEach [b, c] X.env := by rfl) (t2 : (backTo pos2 (starEach [b, c] X.env)).any (·.1) = false := by rfl) :
    PE X (.Call (.Name "list" p) [.Call (.Name "range" p2) [a, b, c] [] pos2] [] pos) (tLRgD ta) := by
  refine ⟨fun pins s σ H Q I h => ?_⟩
  have inner : wpAny (model X.prog X.w) X.A (eval (.Call (.Name "range" p2) [a, b, c] [] pos2) X.env) (fun x t => ∃ r i j n t1 t2 t3 H1, x = .ref r ∧ IsRange t.heap r i j (-1) t1 t2 t3 ∧ Inv X pins σ H1 t ∧ RgC i j (-1) n ∧ n ≤ 2 ^ 24 ∧ ∀ q, H1 q = none → Q (.ref q) (upd H1 q (.lst (dnV i n)))) X.xe s := by
    refine Call_ (ld_blt I gr mr boot_range (PyProof.Rows.callWith_type1 (thn (ha.run pos2 pins s σ H _ I h) fun us t ⟨vs, H1, I1, r1, q1⟩ => ?_) s2 t2))
    obtain ⟨i, j, n, rfl, rg, few, q⟩ := q1
    have rg' := rg
    obtain ⟨c0, c1, _, _⟩ := rg'
    cases r1 with
    | cons r rr =>
      cases rr with
      | cons r' rr =>
        cases rr with
        | cons r'' rr =>
          cases rr
          obtain ⟨t1, rfl⟩ := r
          obtain ⟨t2, rfl⟩ := r'
          obtain ⟨t3, rfl⟩ := r''
          refine call_range_3 c0 ?_ (.inl (PyProof.noPylong_small c1))
          exact ⟨_, i, j, n, _, _, _, H1, rfl, IsRange.new _ _ _ _ _ _ _, I1.kept (t' := t.toks) fun b o e => Heap.get?_push_of_some _ e, rg, few, q⟩
  refine Call_ (ld_blt I gl ml boot_list (PyProof.Rows.callWith_type1 (args_cons (thn inner fun x t ⟨r, i, j, n, t1, t2, t3, H1, ex, hr, I1, rg, few, q⟩ => args_nil ?_) s1) s1))
  subst ex
  obtain ⟨c0, c1, c2, c3⟩ := rg
  refine call_list_range (n := n) (I1.ok.hd calm) hr c2 c3 few fun h' tk acc c' kept made items => ?_
  refine ⟨.ref t.heap.objs.size, _, I1.laid kept (Nat.le_refl _) (show ObjOk X.prog X.w _ _ _ (.lst (dnV i n)) from ⟨?_, acc.toList, c', vals_dn items, ?_⟩), rfl, q _ (I1.hok.fresh (Nat.le_refl _))⟩
  · unfold dnV
    rw [List.length_map, List.length_range, sizeLine_eq]; omega
  · rw [Array.toArray_toList]; exact made
def dLRgD (mu : Bool) (t : AA) : AE := fun E m Q => t E m fun us m1 => match us with
  | [.v (.int i), .v (.int j), .v (.int c)] => c = -1 ∧ (-4611686018427387904 ≤ i ∧ i < 4611686018427387904 ∧ -4611686018427387904 ≤ j ∧ j < 4611686018427387904) ∧ (i - j).toNat ≤ 16777216 ∧ nw mu ((dnI i (i - j).toNat).map .int) m1 Q
  | _ => False
theorem de_lRgD (mu : Bool) {a b c : Expr} {g : AA} {p p2 pos pos2 : Pos} (calm : X.calm = true) (ml : X.mg "list" = none) (mr : X.mg "range" = none) (ha : DA X [a, b, c] g) (gl : Gl X "list" := by rfl) (gr : Gl X "range" := by rfl)
    (s1 : starEach [.Call (.Name "range" p2) [a, b, c] [] pos2] X.env = (false, eval (.Call (.Name "range" p2) [a, b, c] [] pos2) X.env) :: starEach [] X.env := by rfl)
    (s2 : starEach [a, b, c] X.env = (false, eval a X.env) :: starEach [b, c] X.env := by rfl) (t2 : (backTo pos2 (starEach [b, c] X.env)).any (·.1) = false := by rfl) :
    DE X (.Call (.Name "list" p) [.Call (.Name "range" p2) [a, b, c] [] pos2] [] pos) (dLRgD mu g) :=
  pe_imp (pe_lRgD calm gl ml gr mr ha s1 s2 t2) fun σ H Q ⟨F, ro, E, m, Qa, cm, ce, hf, p⟩ =>
    ⟨F, ro, E, m, _, cm, ce, hf, fun F1 ro1 H1 us vs m1 g1 c1 i1 h1 => by
      revert h1
      split
      · rintro ⟨rfl, hb, few, h1⟩
        obtain ⟨v, w, x, rfl, i2, i3, i4⟩ := iu3 i1
        cases i2; cases i3; cases i4
        rename_i i j
        refine ⟨i, j, _, rfl, RgC.neg (by omega) (by omega) (by omega) (by omega), few, fun q hq => ?_⟩
        have ev : dnV i (i - j).toNat = (dnI i (i - j).toNat).map V.int := by unfold dnV dnI; rw [List.map_map]; rfl
        rw [ev]
        exact (p.at g1).nw c1 mu (IsDs.of_ints _) h1 q hq
      · exact fun h => h.elim⟩
end
end Z
/-! YA: sorted of alike data. -/
namespace Z
open PySem PySem.Spec PyProof.Rows L2
/-- what has to be known of data that are sorted -/
structure Srt (ds : List PyData) : Prop where
  sm : ∀ d ∈ ds, d.showable = true ∧ d.shown.length ≤ sizeLine ∧ d.depth ≤ 60
  al : PySem.W.AllAlike ds
  so : PySem.W.Sortable ds
def rSortD (K : PySem.W.Frag) : List V → Hp → VK → Prop := fun vs H Q => ∃ (F : Hp) (a : Addr) (xs : List V) (ds : List PyData), vs = [V.ref a] ∧ SqL K H a xs ∧ Same F H ∧ IsDs K F xs ds ∧ Srt ds ∧
  ∀ (ys : List V) (l' : List PyData), IsDs K F ys l' → l'.Perm ds → l'.Pairwise (fun x y => PySem.W.dataLt y x = false) → ∀ b, H b = none → Q (.ref b) (upd H b (.lst ys))
theorem each_of {K : PySem.W.Frag} {H : Hp} : ∀ {xs : List V} {ds : List PyData} {its : List Value}, IsDs K H xs ds → Vals xs its → PySem.W.EachIs (fun v (b : V × PyData) => RelV b.1 v ∧ IsD K H b.1 b.2 ∧ b.2 ∈ ds) its (xs.zip ds)
  | _, _, _, .nil, r => by cases r; exact .nil
  | _, _, _, .cons hi hr, r => by
    cases r with
    | cons r1 r2 => exact .cons ⟨r1, hi, List.mem_cons_self⟩ ((each_of hr r2).mono fun _ _ h => ⟨h.1, h.2.1, List.mem_cons_of_mem _ h.2.2⟩)
theorem each_back {K : PySem.W.Frag} {H : Hp} {D : List PyData} : ∀ {out : List Value} {bs : List (V × PyData)}, PySem.W.EachIs (fun v (b : V × PyData) => RelV b.1 v ∧ IsD K H b.1 b.2 ∧ b.2 ∈ D) out bs → Vals (bs.map (·.1)) out ∧ IsDs K H (bs.map (·.1)) (bs.map (·.2))
  | _, _, .nil => ⟨.nil, .nil⟩
  | _, _, .cons h t => ⟨.cons h.1 (each_back t).1, .cons h.2.1 (each_back t).2⟩
section
variable {X : Cx}
theorem cr_sortD (hu : X.A.units + 66 < cLine) : CallR X (.builtin "sorted") (rSortD X.K) := by
  intro pins s σ H vs us Q I r h
  obtain ⟨F, a, xs, ds, rfl, hs, sm, hd, S, q⟩ := h
  rw [Vals.ref1 r]
  obtain ⟨its, rv, pl, hz⟩ := I.list hs
  have ln := hd.length
  have e := each_of hd rv
  have eb : (xs.zip ds).map (·.2) = ds := List.map_snd_zip (by omega)
  have er : PySem.W.EachIs (fun v (b : V × PyData) => ∃ as, Reads s.heap v b.2 as) its (xs.zip ds) := e.mono fun v b h => by
    obtain ⟨s1, s2, _⟩ := S.sm _ h.2.2
    obtain ⟨as, _, ra, _⟩ := IsD.rk I (IsD.mono sm h.2.1) h.1 s1 s2
    exact ⟨as, ra⟩
  have zl : (xs.zip ds).length = xs.length := by rw [List.length_zip]; omega
  refine PySem.W.sorted_data (enc := fun (b : V × PyData) => b.2) pl.isList e er (by rw [eb]; exact S.al) (by rw [eb]; exact S.so) (by omega) (fun b hb => ?_) fun out ol eo => ?_
  · have := (S.sm b.2 (List.of_mem_zip hb).2).2.2
    omega
  · obtain ⟨v1, i1⟩ := each_back eo
    obtain ⟨c, hc⟩ := sortedAll_at s.heap its out.toArray
    have pm : ((xs.zip ds).mergeSort (PySem.W.dataLe false fun b => b.2)).Perm (xs.zip ds) := List.mergeSort_perm _ _
    have pw : ((xs.zip ds).mergeSort (PySem.W.dataLe false fun b => b.2)).Pairwise (fun x y => PySem.W.dataLe false (fun (b : V × PyData) => b.2) x y = true) := PySem.W.sort_pairwise (PySem.W.sortLe_total _ _ _) _
    have l2 : out.length ≤ sizeLine := by omega
    generalize (xs.zip ds).mergeSort (PySem.W.dataLe false fun b => b.2) = bs at eo v1 i1 pm pw
    have I2 : Inv X pins σ (upd H (s.heap.objs.size + 1) (.lst (bs.map (·.1)))) { s with heap := sortedAll s.heap its out.toArray } :=
      I.laid (t' := s.toks) (fun c o e => sortedAll_old e) (Nat.le_succ _) ⟨by rw [v1.length]; exact l2, out, c, v1, hc⟩
    refine ⟨.ref (s.heap.objs.size + 1), _, I2, rfl, q (bs.map (·.1)) (bs.map (·.2)) i1 ?_ ?_ _ (I.hok.fresh (Nat.le_succ _))⟩
    · have := pm.map (fun b => b.2)
      rw [eb] at this
      exact this
    · refine List.pairwise_map.mpr (pw.imp fun {x y} h => ?_)
      have h' : (!PySem.W.dataLt y.2 x.2) = true := h
      rw [Bool.not_eq_true'] at h'
      exact h'
/-- sorted(xs) of alike data -/
def aSortD (mu : Bool) : R1A := fun us m Q => match us with
  | [u] => (match asQ m u with
    | some ds => Srt ds ∧ ∀ l' : List PyData, l'.Perm ds → l'.Pairwise (fun x y => PySem.W.dataLt y x = false) → nw mu l' m Q
    | none => False)
  | _ => False
theorem sim_sortD {K : PySem.W.Frag} (mu : Bool) : SimC K (rSortD K) (aSortD mu) := by
  intro F ro H m us vs Q Qa c iu h p
  unfold aSortD at h
  split at h
  · rename_i u
    obtain ⟨v, rfl, i1⟩ := iu1 iu
    split at h
    · rename_i ds ed
      obtain ⟨a, xs, rfl, hs, hd⟩ := asQ_sq c i1 ed
      exact ⟨F, a, xs, ds, rfl, hs, c.ex, hd, h.1, fun ys l' iy pm pw b hb => p.nw c mu iy (h.2 l' pm pw) b hb⟩
    · exact h.elim
  · exact h.elim
end
end Z
namespace Z
open PySem PySem.Spec PyProof.Rows L2
/-! ### range(a, b, c), upwards -/
def stepN (i j c : Int) : Nat := if i < j then ((j - i - 1) / c + 1).toNat else 0
theorem stepN_le {i j c : Int} (hc : 1 ≤ c) : (stepN i j c : Int) ≤ max 0 (j - i) := by
  unfold stepN
  split
  · have h1 := Int.ediv_le_self c (show 0 ≤ j - i - 1 by omega)
    omega
  · omega
theorem RgC_up {i j c : Int} (hc : 1 ≤ c) (hc2 : c < 1000000000) (hi : 0 ≤ i ∧ i < 1000000000) (hj : 0 ≤ j ∧ j < 1000000000) : RgC i j c (stepN i j c) := by
  have rs : Builtin.Range.rangeSize i j c = (stepN i j c : Int) := by
    unfold Builtin.Range.rangeSize stepN
    rw [if_pos (by omega)]
    split
    · have h1 := Int.ediv_nonneg (show 0 ≤ j - i - 1 by omega) (show 0 ≤ c by omega)
      rw [Int.toNat_of_nonneg (by omega)]
    · rfl
  have n1 := stepN_le (i := i) (j := j) hc
  refine ⟨by omega, by omega, ?_, rs⟩
  unfold Builtin.Range.small
  rw [rs]
  have hp : c > 0 := by omega
  simp only [Builtin.Range.rangeFitsLong, Bool.and_eq_true, Bool.or_eq_true, decide_eq_true_eq, beq_iff_eq, hp, if_true]
  omega
def upU (lo c : Int) (n : Nat) : List U := (List.range n).map fun (i : Nat) => U.v (.int (lo + (i : Int) * c))
theorem up_ok {K : PySem.W.Frag} {F H : Hp} {ro : List Addr} (lo c : Int) (n : Nat) : ItOk K F ro H (Itc lo c n) (upU lo c n) fun _ => True := by
  have hl : (upU lo c n).length = n := by simp [upU]
  refine ⟨fun i F' ro' H' m' g c' gd hi => ?_, fun F' ro' H' m' g c' gd => ?_, fun i w F' ro' H' m' x H2 g c' gd hw hy => ?_⟩
  · show i < n
    omega
  · show n ≤ _
    omega
  · obtain ⟨rfl, rfl⟩ := hy
    unfold upU at hw
    rw [List.getElem?_map] at hw
    obtain ⟨dd, e1, e2⟩ := Option.map_eq_some_iff.mp hw
    obtain ⟨_, e3⟩ := List.getElem?_eq_some_iff.mp e1
    simp at e3
    subst e3 e2
    exact ⟨F', c', Gro.refl, .int _⟩
def sRngS (t : AA) : AI := fun E m R => t E m fun us m1 => match us with
  | [.v (.int i), .v (.int j), .v (.int c)] => (1 ≤ c ∧ c < 1000000000 ∧ 0 ≤ i ∧ i < 1000000000 ∧ 0 ≤ j ∧ j < 1000000000) ∧ R (upU i c (stepN i j c)) (fun _ => True) m1
  | _ => False
section
variable {X : Cx}
theorem di_rngS {tg a b c : Expr} {g : AA} {p pos : Pos} (hm : X.mg "range" = none) (ha : DA X [a, b, c] g) (hg : Gl X "range" := by rfl) (hs : starEach [a, b, c] X.env = (false, eval a X.env) :: starEach [b, c] X.env := by rfl) (hpl : (backTo pos (starEach [b, c] X.env)).any (·.1) = false := by rfl) :
    DI X tg (.Call (.Name "range" p) [a, b, c] [] pos) (sRngS g) :=
  pi_imp (pi_range3 hg hm ha hs hpl) fun σ H R ⟨F, ro, E, m, Ra, c, ce, hf, p⟩ =>
    ⟨F, ro, E, m, _, c, ce, hf, fun F1 ro1 H1 us vs m1 g1 c1 i1 h1 => by
      revert h1
      split
      · rintro ⟨⟨b1, b2, b3, b4, b5, b6⟩, h1⟩
        obtain ⟨v, w, x, rfl, i2, i3, i4⟩ := iu3 i1
        cases i2; cases i3; cases i4
        exact ⟨_, _, _, _, rfl, RgC_up b1 b2 ⟨b3, b4⟩ ⟨b5, b6⟩, p F1 ro1 H1 _ _ m1 _ g1 c1 (up_ok _ _ _) h1⟩
      · exact fun h => h.elim⟩
end
end Z
/-! YB: try .. except; a caught exception is a known thing from then on. -/
namespace Z
open PySem PySem.Spec PyProof.Rows L2

def excHO (a : Addr) (oe : Obj) : HO := .frz oe (.ext fun h => h.get? a = some oe)
section
variable {X : Cx} {pins : List (Addr × Obj)} {σ : L2.St} {H : Hp} {s : Shared} {a : Addr} {cls : Value} {d : Option Addr}
/-- an object of the heap that nobody tracks is tracked from now on -/
theorem Inv_track {oe : Obj} {vs : Array Value} (I : Inv X pins σ H s) (ha : s.heap.get? a = some oe) (hd : oe.data = .fields vs) (h0 : X.s_0.heap.get? a = none) (hn : H a = none) (nL : a ≠ X.env.locals) (np : ∀ p ∈ X.pn ++ pins, p.1 ≠ a) :
    Inv X pins σ (upd H a (excHO a oe)) s := by
  have old : ∀ {b o}, X.s_0.heap.get? b = some o → b ≠ a := fun {b o} e z => by rw [z, h0] at e; cases e
  have trk : ∀ {b o}, H b = some o → b ≠ a := fun {b o} e z => by rw [z, hn] at e; cases e
  have stay : ∀ {b o}, H b = some o → upd H a (excHO a oe) b = some o := fun {b o} e => (upd_ne (trk e)).trans e
  refine ⟨I.ok, I.os, I.bare, ⟨I.base.keep, I.base.slot, fun b o e n hx => (upd_ne (old e)).trans (I.base.free b o e n hx), I.base.there, fun b xs e => stay (I.base.tups b xs e), fun b o u e => stay (I.base.frzs b o u e), fun b ps e => ?_⟩,
    I.loc, I.cell, (upd_ne (Ne.symm nL)).trans I.free, fun x c e => ?_, fun p hp => ?_, fun b u e => ?_, I.len⟩
  · obtain ⟨m, q⟩ := I.base.tbls b ps e
    exact ⟨m, stay q⟩
  · refine (upd_ne fun z => ?_).trans (I.freeC x c e)
    obtain ⟨v, o, q, dd⟩ := I.cell x c e
    rw [z, ha] at q
    cases q
    rw [hd] at dd
    cases dd
  · obtain ⟨e, n, r⟩ := I.pin p hp
    exact ⟨e, (upd_ne (np p hp)).trans n, r⟩
  · by_cases hb : b = a
    · subst hb
      cases upd_same.symm.trans e
      exact ⟨ha, ha, ⟨oe, ha⟩, fun _ _ q k => k _ q⟩
    · exact (I.hok b u ((upd_ne hb).symm.trans e)).stay (fun _ _ _ q => q) (fun _ q => stay q) fun _ _ q => stay q
/-- the context of an except suite, the exception being tracked -/
abbrev suiteT (X : Cx) (a : Addr) : Cx := { X with A := X.A.mark (some (.ref a)), calm := false, xe := fun _ _ => False }
theorem invT (I : Inv X pins σ H s) (a : Addr) : Inv (suiteT X a) pins σ H s :=
  have ok := I.ok
  ⟨⟨ok.mod, ok.kind, ok.glob, ok.blt, ok.above, ok.inj, ok.has, ok.cab, (fun z => nomatch z), ok.frames, ok.stk, ok.exf, ok.bs, ok.bsz, ok.noex, ok.exfs, ok.funs, ok.frf⟩, I.os, I.bare, I.base, I.loc, I.cell, I.free, I.freeC, I.pin, I.hok, I.len⟩
theorem invU (I : Inv (suiteT X a) pins σ H s) (ok : X.Ok) : Inv X pins σ H s := ⟨ok, I.os, I.bare, I.base, I.loc, I.cell, I.free, I.freeC, I.pin, I.hok, I.len⟩
/-- an exception on the ground, amid a try: its object, and what may still change -/
structure Down (X : Cx) (pins : List (Addr × Obj)) (σ : L2.St) (H : Hp) (a : Addr) (cls : Value) (d : Option Addr) (s : Shared) : Prop where
  fly : ∃ B : Heap, HandSPX.FlyingZ B (X.env :: X.outer) a (L2N.Zn cls d) s.heap ∧ ∀ h : Heap, B.StaysIn h → s.heap.UpToSlots h → Inv X pins σ H { s with heap := h }
  inv : Inv X pins σ H s
  fresh : X.s_0.heap.get? a = none
  apart : ∀ p ∈ X.pn ++ pins, p.1 ≠ a
  loc : a ≠ X.env.locals
  fs : a ∉ X.fs
  free : H a = none
theorem Down.obj (D : Down X pins σ H a cls d s) : ∃ oe vs, s.heap.get? a = some oe ∧ L2N.Zn cls d oe ∧ oe.data = .fields vs := by
  obtain ⟨B, f, _⟩ := D.fly
  obtain ⟨oe, vs, q1, q2, q3⟩ := f.there
  exact ⟨oe, vs, q1, q2, q3⟩
/-- its flight is ended once more -/
theorem Down.again {E : Value → Shared → Prop} {A : Around} {Q : Unit → Shared → Prop} (D : Down X pins σ H a cls d s) (hQ : ∀ h, Down X pins σ H a cls d { s with heap := h } → Q () { s with heap := h }) :
    wpAny (model X.prog X.w) A (setFlight (.ref a) none) Q E s := by
  obtain ⟨B, f, k⟩ := D.fly
  refine HandSPX.lands_againZ f fun h g up => hQ h ⟨⟨B, g, fun h2 st u2 => k h2 st (up.trans u2)⟩, k h g.1 up, D.fresh, D.apart, D.loc, D.fs, D.free⟩
/-- the state in which the suite begins -/
theorem Down.suite (D : Down X pins σ H a cls d s) : ∃ oe vs, L2N.Zn cls d oe ∧ oe.data = .fields vs ∧ Inv (suiteT X a) pins σ (upd H a (excHO a oe)) s := by
  obtain ⟨oe, vs, q1, q2, q3⟩ := D.obj
  exact ⟨oe, vs, q2, q3, invT (Inv_track D.inv q1 q3 D.fresh D.free D.loc D.apart) a⟩
/-- out of the air of a try's body -/
theorem air_down {xe E : Value → Shared → Prop} {W : WX} {u : Value} (hex : X.ex = []) (hs : X.stack = X.env :: X.outer) (hf : X.env.frame = some X.env.locals) (ok : X.Ok) (xx : L2N.XE (X.tr (X.pn ++ pins) xe) W u s) :
    ∃ a cls d σ' H', u = .ref a ∧ W cls d σ' H' ∧ ∀ Q : Unit → Shared → Prop, (∀ h, Down X pins σ' H' a cls d { s with heap := h } → Q () { s with heap := h }) →
      wpAny (model X.prog X.w) X.A (noteFrame u X.env) (fun _ s₂ => wpAny (model X.prog X.w) X.A (setFlight u none) Q E s₂) E s := by
  obtain ⟨a, B, sI, _, σ', H', cls, d, rfl, J, nb, up, sky, na, os, ag, w⟩ := xx
  have nb' : ∀ b o, sI.heap.get? b = some o → b ∉ frs X.stack → B.get? b = some o := nb
  have J : Inv X pins σ' H' sI := J.ofTry ok
  refine ⟨a, cls, d, σ', H', rfl, w, fun Q hQ => ?_⟩
  refine L2N.Sky.land L2N.Zn.steady (by rw [ok.frames, hs]) hf (by rw [← hs]; exact sky) fun h f up2 => hQ h ?_
  obtain ⟨oe, vs, q1, q2, q3⟩ := f.there
  have nfr : a ∉ frs (X.env :: X.outer) := fun hm => by
    obtain ⟨_, o, e, nf⟩ := f.2.2.1.mem hm
    cases q1.symm.trans e
    exact nf _ q3
  have nI : ∀ o, sI.heap.get? a ≠ some o := fun o q => by
    have z := nb' a o q (by rw [hs]; exact nfr)
    rw [f.2.1] at z
    cases z
  have kI : ∀ h2 : Heap, B.StaysIn h2 → h.UpToSlots h2 → Inv X pins σ' H' { s with heap := h2 } := fun h2 st u2 => J.landed (s' := { s with heap := h2 }) nb' st ((up.trans up2).trans u2) os ag
  refine ⟨⟨B, f, kI⟩, kI h f.1 (Heap.UpToSlots.refl _), ?_, fun p hp z => nI p.2 ?_, fun z => nfr ?_, fun hm => nfr ?_, na⟩
  · cases q : X.s_0.heap.get? a with
    | none => rfl
    | some o =>
      obtain ⟨o', z⟩ := J.base.there a o q (by rw [hex]; exact fun z => nomatch z)
      exact absurd z (nI o')
  · rw [← z]; exact (J.pin p hp).1
  · exact List.mem_filterMap.mpr ⟨X.env, List.mem_cons_self, by rw [hf, z]⟩
  · obtain ⟨e, he, q⟩ := List.mem_filterMap.mp hm
    exact List.mem_filterMap.mpr ⟨e, List.mem_cons_of_mem _ he, q⟩
end
/-- what the only clause wishes of an exception of the body: it catches it -/
def wT (K : PySem.W.Frag) (c : Value) (on : Option Nat) (ts : Addr → TS) (D : Ends) : WX := fun cls d σ H => PySem.W.exmOne K cls c = some true ∧ ∀ a oe vs, H a = none → L2N.Zn cls d oe → oe.data = .fields vs → match on with
  | some i => ts a { nx := fun σ' H' => D.nx (σ'.set i none) H', rt := D.rt, bk := fun σ' H' => D.bk (σ'.set i none) H', ct := fun σ' H' => D.ct (σ'.set i none) H' } (σ.set i (some (.ref a))) (upd H a (excHO a oe))
  | none => ts a D σ (upd H a (excHO a oe))
section
variable {X : Cx} {x n : Str} {c : Value} {i : Nat} {body suite : List Stmt} {b₀ : Stmt} {np pos pos' : Pos} {tb : WX → TS} {ts : Addr → TS}
theorem clause_at {pins : List (Addr × Obj)} {σ : L2.St} {H : Hp} {s : Shared} {a : Addr} {cls : Value} {d : Option Addr} {E : Value → Shared → Prop} {Q : Bool → Shared → Prop} (hc : Names X x c) (D : Down X pins σ H a cls d s) (hm : PySem.W.exmOne X.K cls c = some true) (q : Q true s) :
    wpAny (model X.prog X.w) (X.A.mark (some (.ref a))) (eval (.Name x np) X.env) (fun c' s1 => wpAny (model X.prog X.w) (X.A.mark (some (.ref a))) (excMatches (.ref a) c') Q E s1) E s := by
  obtain ⟨oe, vs, q1, q2, q3⟩ := D.obj
  have S := D.inv.suite q1 q3 D.free D.loc D.fs
  have T : PySem.W.Looks (model X.prog X.w) s.heap (typeOf (.ref a)) cls := fun A Q E s k q => wpAny_typeOf_ref (k _ _ q1) (by rw [q2.1]; exact q)
  have L := (PySem.W.exm_one (M := model X.prog X.w) D.inv.kIn T hm).here (A := X.A.mark (some (.ref a))) (E := E) q
  obtain ⟨g1, g2, g3 | ⟨g3, g4, g5⟩⟩ := hc
  · exact ld_glob (X := X.suite a ((a, oe) :: (X.pn ++ pins))) S g1 g3 L g2
  · exact ld_blt (X := X.suite a ((a, oe) :: (X.pn ++ pins))) S g1 g3 g4 L g5 g2
theorem try_run {h₁ : ExceptHandler} {on : Option Nat} (hex : X.ex = []) (hs : X.stack = X.env :: X.outer) (hf : X.env.frame = some X.env.locals)
    (hb : ∀ (W : WX) (pn : List (Addr × Obj)) (xe : Value → Shared → Prop), L2N.Takes (X.tr pn xe) W → PassesOwn (model X.prog X.w) X.A X.env xe → PSs (X.tr pn xe) body (tb W))
    (hh : ∀ pins σ H s a cls d D, Down X pins σ H a cls d s → wT X.K c on ts D cls d σ H → X.Ok → wpAny (model X.prog X.w) X.A (handleBy (.ref a) X.env [h₁]) (SP X pins D) X.xe s) :
    PS X (.Try body [h₁] [] [] pos) (fun D σ H => tb (wT X.K c on ts D) D σ H) := by
  refine ⟨fun pins s σ H D I h => ?_⟩
  have ok := I.ok
  refine wpAny_Try_except (wpAny_mono ((hb (wT X.K c on ts D) (X.pn ++ pins) _ (fun u s' xx => ?_) PassesOwn.looking).run [] s σ H D (I.toTry _) h) (fun f s1 q => ?_) (fun e s1 he => he))
  · obtain ⟨a, cls, d, σ', H', rfl, w, k⟩ := air_down (E := X.xe) hex hs hf ok xx
    exact k _ fun h D' => hh pins σ' H' _ a cls d D D' w ok
  · cases f with
    | next => obtain ⟨σ', H', J, q⟩ := q; exact wpAny_execs_nil ⟨σ', H', J.ofTry ok, q⟩
    | brk => obtain ⟨σ', H', J, q⟩ := q; exact ⟨σ', H', J.ofTry ok, q⟩
    | cont => obtain ⟨σ', H', J, q⟩ := q; exact ⟨σ', H', J.ofTry ok, q⟩
    | ret u => obtain ⟨v, σ', H', J, r, q⟩ := q; exact ⟨v, σ', H', J.ofTry ok, r, q⟩
/-- try: body / except x as n: suite -/
theorem ps_tryAs (hex : X.ex = []) (hs : X.stack = X.env :: X.outer) (hf : X.env.frame = some X.env.locals) (hN : X.N.Nodup) (hi : X.N[i]? = some n) (hln : X.env.kindOf n = some .local) (hc : Names X x c)
    (hb : ∀ (W : WX) (pn : List (Addr × Obj)) (xe : Value → Shared → Prop), L2N.Takes (X.tr pn xe) W → PassesOwn (model X.prog X.w) X.A X.env xe → PSs (X.tr pn xe) body (tb W))
    (hsu : ∀ a : Addr, PSs (suiteT X a) (b₀ :: suite) (ts a)) :
    PS X (.Try body [.ExceptHandler (some (.Name x np)) (some n) (b₀ :: suite) pos'] [] [] pos) (fun D σ H => tb (wT X.K c (some i) ts D) D σ H) := by
  refine try_run hex hs hf hb fun pins σ H s a cls d D D' w ok => ?_
  refine wpAny_handleBy_cons (codeAny_handlers_test (clause_at hc D' w.1 ?_)) (fun q => nomatch q)
  refine codeAny_handlers_suite_as (D'.again fun h4 D4 => ?_)
  obtain ⟨oe, vs, z1, z2, S⟩ := D4.suite
  refine store_ok (X := suiteT X a) (v := .ref a) S hN hi (.inl hln) rfl (fun s5 S5 => ?_) (.inr hln)
  refine wpAny_mono ((hsu a).run pins s5 _ _ _ S5 (w.2 a oe vs D4.free z1 z2)) (fun f s6 q => ?_) (fun _ _ z => z.elim)
  have fin : ∀ {σ6 : L2.St} {H6 : Hp} {Q : Shared → Prop}, Inv (suiteT X a) pins σ6 H6 s6 → (∀ s7, Inv X pins (σ6.set i none) H6 s7 → Q s7) →
      wpAny (model X.prog X.w) X.A (do bindName X.env n .none; unbindBehindTheSuite X.env n pos') (fun _ s7 => Q s7) X.xe s6 := fun {σ6 H6 Q} S6 hq => gone_ok (invU S6 ok) hN hi hln hq
  cases f with
  | next => obtain ⟨σ6, H6, S6, q6⟩ := q; exact fin S6 fun s7 J => ⟨_, _, J, q6⟩
  | brk => obtain ⟨σ6, H6, S6, q6⟩ := q; exact fin S6 fun s7 J => ⟨_, _, J, q6⟩
  | cont => obtain ⟨σ6, H6, S6, q6⟩ := q; exact fin S6 fun s7 J => ⟨_, _, J, q6⟩
  | ret u => obtain ⟨v6, σ6, H6, S6, r6, q6⟩ := q; exact fin S6 fun s7 J => ⟨_, _, _, J, r6, q6⟩
/-- try: body / except x: suite -/
theorem ps_tryO (hex : X.ex = []) (hs : X.stack = X.env :: X.outer) (hf : X.env.frame = some X.env.locals) (hc : Names X x c)
    (hb : ∀ (W : WX) (pn : List (Addr × Obj)) (xe : Value → Shared → Prop), L2N.Takes (X.tr pn xe) W → PassesOwn (model X.prog X.w) X.A X.env xe → PSs (X.tr pn xe) body (tb W))
    (hsu : ∀ a : Addr, PSs (suiteT X a) (b₀ :: suite) (ts a)) :
    PS X (.Try body [.ExceptHandler (some (.Name x np)) none (b₀ :: suite) pos'] [] [] pos) (fun D σ H => tb (wT X.K c none ts D) D σ H) := by
  refine try_run hex hs hf hb fun pins σ H s a cls d D D' w ok => ?_
  refine wpAny_handleBy_cons (codeAny_handlers_test (clause_at hc D' w.1 ?_)) (fun q => nomatch q)
  refine codeAny_handlers_suite (D'.again fun h4 D4 => ?_)
  obtain ⟨oe, vs, z1, z2, S⟩ := D4.suite
  refine wpAny_mono ((hsu a).run pins _ _ _ _ S (w.2 a oe vs D4.free z1 z2)) (fun f s6 q => ?_) (fun _ _ z => z.elim)
  cases f with
  | next => obtain ⟨σ6, H6, S6, q6⟩ := q; exact ⟨_, _, invU S6 ok, q6⟩
  | brk => obtain ⟨σ6, H6, S6, q6⟩ := q; exact ⟨_, _, invU S6 ok, q6⟩
  | cont => obtain ⟨σ6, H6, S6, q6⟩ := q; exact ⟨_, _, invU S6 ok, q6⟩
  | ret u => obtain ⟨v6, σ6, H6, S6, r6, q6⟩ := q; exact ⟨_, _, _, invU S6 ok, r6, q6⟩
end
end Z
/-! YC: readings of what may raise: an exception is the name of its class, the slots and the store at that time. -/
namespace Z
open PySem PySem.Spec PyProof.Rows L2

/-! ### the classes of the text -/
def bmV : List Value := [.type "ValueError", .type "Exception", .type "BaseException", .type "object"]
/-- c is n's class or stands above it -/
def subNm (n c : Str) : Bool := n == c || c == "BacklinkError" || c == "ValueError"
def clsB (K : PySem.W.Frag) (nm : Str) : Bool := match PySem.W.nsIn K mainGlobals nm with
  | some (some (.ref C)) => (fldNm nm != [] || PySem.W.excIn K C bmV "ValueError.__new__") && PySem.W.keepIn K (.ref C) && (PySem.W.subIn K (.ref C) (.type "BaseException") == some true) && (PySem.W.typeIn K (.ref C) == some (.type "type"))
    && (PySem.W.findIn K (.ref C) "__getattribute__" == some (some (.builtin "BaseException.__getattribute__"))) && (PySem.W.findIn K (.ref C) "__getattr__" == some none) && PySem.W.hasDictIn K C
    && (PySem.W.findIn K (.ref C) "__class__" == some (some (.builtin "object.__class__"))) && (PySem.W.mroIn K C (.type "object") == some true) && (PySem.W.kitOne K (.ref C) (.type "ValueError") == some true)
  | _ => false
def pairB (K : PySem.W.Frag) (n c : Str) : Bool := match PySem.W.nsIn K mainGlobals n, PySem.W.nsIn K mainGlobals c with
  | some (some (.ref D)), some (some (.ref C)) => (PySem.W.kitOne K (.ref D) (.ref C) == some (subNm n c)) && (PySem.W.exmOne K (.ref D) (.ref C) == some (subNm n c))
  | _, _ => false
/-- rs: classes that are raised with a text; cs: classes that are asked for -/
def exTab (K : PySem.W.Frag) (rs cs : List Str) : Bool := rs.all (fun n => clsB K n && cs.all (pairB K n)) && (PySem.W.specialIn K (.builtin "object.__class__") "__get__" == some (some (.builtin "getset_descriptor.__get__"))) && (PySem.W.takesIn K (.builtin "object.__class__") == some true)
structure ExT (K : PySem.W.Frag) (mg : Str → Option Value) (rs cs : List Str) : Prop where
  tab : exTab K rs cs = true
  gm : ∀ n v, PySem.W.nsIn K mainGlobals n = some (some v) → mg n = some v
structure Cls1 (K : PySem.W.Frag) (mg : Str → Option Value) (nm : Str) (C : Addr) : Prop where
  ns : PySem.W.nsIn K mainGlobals nm = some (some (.ref C))
  mg : mg nm = some (.ref C)
  ex : fldNm nm = [] → PySem.W.excIn K C bmV "ValueError.__new__" = true
  kp : PySem.W.keepIn K (.ref C) = true
  sb : PySem.W.subIn K (.ref C) (.type "BaseException") = some true
  ty : PySem.W.typeIn K (.ref C) = some (.type "type")
  is : ExcC K C
  val : PySem.W.kitOne K (.ref C) (.type "ValueError") = some true
section
variable {K : PySem.W.Frag} {mg : Str → Option Value} {rs cs : List Str} {nm c : Str}
theorem ExT.cls (x : ExT K mg rs cs) (h : nm ∈ rs) : ∃ C, Cls1 K mg nm C := by
  have t := x.tab
  unfold exTab at t
  simp only [Bool.and_eq_true, List.all_eq_true, beq_iff_eq] at t
  obtain ⟨⟨t1, t2⟩, t3⟩ := t
  have q := (t1 nm h).1
  unfold clsB at q
  split at q
  · rename_i C hC
    simp only [Bool.and_eq_true, beq_iff_eq] at q
    obtain ⟨⟨⟨⟨⟨⟨⟨⟨⟨q1, q2⟩, q3⟩, q4⟩, q5⟩, q6⟩, q7⟩, q8⟩, q9⟩, q10⟩ := q
    exact ⟨C, hC, x.gm _ _ hC, (fun z => by simpa [z] using q1), q2, q3, q4, ⟨q5, q6, q3, q7, q8, t2, t3, q9⟩, q10⟩
  · cases q
theorem ExT.pair (x : ExT K mg rs cs) (h : nm ∈ rs) (hc : c ∈ cs) : ∃ D C, PySem.W.nsIn K mainGlobals nm = some (some (.ref D)) ∧ PySem.W.nsIn K mainGlobals c = some (some (.ref C)) ∧ mg c = some (.ref C) ∧
    PySem.W.kitOne K (.ref D) (.ref C) = some (subNm nm c) ∧ PySem.W.exmOne K (.ref D) (.ref C) = some (subNm nm c) := by
  have t := x.tab
  unfold exTab at t
  simp only [Bool.and_eq_true, List.all_eq_true, beq_iff_eq] at t
  have q := (t.1.1 nm h).2 c hc
  unfold pairB at q
  split at q
  · rename_i D C hD hC
    simp only [Bool.and_eq_true, beq_iff_eq] at q
    exact ⟨D, C, hD, hC, x.gm _ _ hC, q.1, q.2⟩
  · cases q
end

/-! ### judgements -/
abbrev XQ := Str → List PyData → Sto → Prop
abbrev XA := Str → List PyData → En → Sto → Prop
abbrev XS := XA → AS
abbrev XR := XA → AE
section
variable (K : PySem.W.Frag) (F : Hp) (ro : List Addr) (H : Hp)
def PostX (Xa : XA) (W : WX) : Prop := ∀ (F' : Hp) (ro' : List Addr) (H' : Hp) (σ' : L2.St) (E' : En) (m' : Sto) (nm : Str) (C : Addr) (d : Option Addr) (pl : List PyData), Gro F ro H F' ro' H' → ConM K F' ro' H' m' → ConE K F' ro' σ' E' → PySem.W.nsIn K mainGlobals nm = some (some (.ref C)) → ExcD F' nm d pl → Xa nm pl E' m' → W (.ref C) d σ' H'
def PostQ (Xq : XQ) (E : XK) : Prop := ∀ (F' : Hp) (ro' : List Addr) (H' : Hp) (m' : Sto) (nm : Str) (C : Addr) (d : Option Addr) (pl : List PyData), Gro F ro H F' ro' H' → ConM K F' ro' H' m' → PySem.W.nsIn K mainGlobals nm = some (some (.ref C)) → ExcD F' nm d pl → Xq nm pl m' → E (.ref C) d H'
end
def cX (K : PySem.W.Frag) (W : WX) (g : XS) : TS := fun D σ H => ∃ F ro E m Da Xa, ConM K F ro H m ∧ ConE K F ro σ E ∧ g Xa Da E m ∧ Mat K F ro H Da D ∧ PostX K F ro H Xa W
def cR (K : PySem.W.Frag) (W : WX) (g : XR) : TE := fun σ H Q => ∃ F ro E m Qa Xa, ConM K F ro H m ∧ ConE K F ro σ E ∧ g Xa E m Qa ∧ Post K F ro H Qa Q ∧ PostX K F ro H Xa W
abbrev DX (X : Cx) (W : WX) (st : Stmt) (g : XS) : Prop := PS X st (cX X.K W g)
abbrev DXs (X : Cx) (W : WX) (st : List Stmt) (g : XS) : Prop := PSs X st (cX X.K W g)
abbrev DR (X : Cx) (W : WX) (e : Expr) (g : XR) : Prop := PE X e (cR X.K W g)
section
variable {K : PySem.W.Frag} {F F1 H H1 : Hp} {ro ro1 : List Addr}
theorem PostX.at {Xa : XA} {W : WX} (p : PostX K F ro H Xa W) (g : Gro F ro H F1 ro1 H1) : PostX K F1 ro1 H1 Xa W := fun F' ro' H' σ' E' m' nm C d pl g' => p F' ro' H' σ' E' m' nm C d pl (g.trans g')
end
section
variable {X : Cx} {W : WX} {st : Stmt} {rest : List Stmt} {f g : XS} {pos : Pos}
theorem ps_nox {t : TS} (h : PS X.nox st t) : PS X st t := ⟨fun pins s σ H D I hw => wpAny_mono (h.run pins s σ H D (I.wish _) hw) (fun _ _ q => q.unwish) fun _ _ z => z.elim⟩
theorem dx_of {a : AS} (h : DS X.nox st a) : DX X W st (fun _ => a) := ps_imp (ps_nox h) fun D σ H ⟨F, ro, E, m, Da, Xa, c, ce, hf, p, px⟩ => ⟨F, ro, E, m, Da, c, ce, hf, p⟩
theorem dxs_nil : DXs X W [] (fun _ => dNext) := pss_imp pss_nil fun D σ H ⟨F, ro, E, m, Da, Xa, c, ce, hf, p, px⟩ => p.nx F ro H σ E m Gro.refl c ce hf
theorem dxs_cons (h1 : DX X W st f) (h2 : DXs X W rest g) : DXs X W (st :: rest) (fun Xa => dSeq (f Xa) (g Xa)) := pss_imp (pss_cons h1 h2) fun D σ H ⟨F, ro, E, m, Da, Xa, c, ce, hf, p, px⟩ =>
  ⟨F, ro, E, m, _, Xa, c, ce, hf, ⟨fun F1 ro1 H1 σ1 E1 m1 g1 c1 ce1 h1 => ⟨F1, ro1, E1, m1, Da, Xa, c1, ce1, h1, p.at g1, px.at g1⟩, p.rt, p.bk, p.ct⟩, px⟩
theorem dxs_one (h1 : DX X W st f) : DXs X W [st] f := pss_one h1
theorem dx_if {c : Expr} {a b : List Stmt} {tc : AT} (hc : DT X c tc) (ha : DXs X W a f) (hb : DXs X W b g) : DX X W (.If c a b pos) (fun Xa => dIfS tc (f Xa) (g Xa)) := ps_imp (ps_if hc ha hb) fun D σ H ⟨F, ro, E, m, Da, Xa, cm, ce, hf, p, px⟩ =>
  ⟨F, ro, E, m, _, cm, ce, hf, fun F1 ro1 H1 c m1 g1 c1 h1 => by
    cases c with
    | true => exact ⟨F1, ro1, E, m1, Da, Xa, c1, ce.mono g1, h1, p.at g1, px.at g1⟩
    | false => exact ⟨F1, ro1, E, m1, Da, Xa, c1, ce.mono g1, h1, p.at g1, px.at g1⟩⟩
theorem dx_for {tg iter : Expr} {body : List Stmt} {s : AI} {ga : AG} (hp : PassesOwn (model X.prog X.w) X.A X.env X.xe) (hc : X.calm = true) (hi : DI X tg iter s) (hg : DG X tg ga) (hb : DXs X W body f) (hs : ∀ x, foldedSetIterable iter X.env x = pure x := by intro _; rfl) :
    DX X W (.For tg iter body [] pos) (fun Xa => dFor s ga (f Xa)) :=
  ps_imp (ps_for hp hc hi hg hb hs) fun D σ H ⟨F, ro, E, m, Da, Xa, cm, ce, hf, p, px⟩ => by
    refine ⟨F, ro, E, m, _, cm, ce, hf, fun F1 ro1 H1 us gd m1 J g1 c1 ok h1 => ?_⟩
    refine ⟨fun i n σ' H' => n = us.length - i ∧ i ≤ us.length ∧ ∃ F' ro' E' m', Gro F1 ro1 H1 F' ro' H' ∧ ConM X.K F' ro' H' m' ∧ ConE X.K F' ro' σ' E' ∧ forU gd ga (f Xa) Da (us.drop i) E' m', ⟨us.length, rfl, Nat.zero_le _, F1, ro1, E, m1, Gro.refl, c1, ce.mono g1, h1⟩, ?_⟩
    rintro i n σ2 H2 ⟨en, hi, F2, ro2, E2, m2, g2, c2, ce2, h2⟩
    by_cases hlt : i < us.length
    · rw [List.drop_eq_getElem_cons hlt] at h2
      obtain ⟨hgd, h2⟩ := h2
      refine .inr ⟨ok.go i F2 ro2 H2 m2 g2 c2 hgd hlt, fun σ' H' => ∃ F' ro' E' m', Gro F1 ro1 H1 F' ro' H' ∧ ConM X.K F' ro' H' m' ∧ ConE X.K F' ro' σ' E' ∧ forU gd ga (f Xa) Da (us.drop (i + 1)) E' m', fun σ' H' h => ⟨us.length - (i + 1), by omega, rfl, hlt, h⟩, fun x H3 hy => ?_⟩
      obtain ⟨F3, c3, g3, iu⟩ := ok.yld i us[i] F2 ro2 H2 m2 x H3 g2 c2 hgd (List.getElem?_eq_getElem hlt) hy
      refine ⟨F3, ro2, E2, m2, _, _, c3, ce2.mono g3, iu, h2, fun F4 ro4 H4 σ4 E4 m4 g4 c4 ce4 h4 => ?_⟩
      have g14 := g2.trans (g3.trans g4)
      refine ⟨F4, ro4, E4, m4, _, Xa, c4, ce4, h4, ?_, px.at (g1.trans g14)⟩
      exact ⟨fun F5 ro5 H5 σ5 E5 m5 g5 c5 ce5 h5 => ⟨F5, ro5, E5, m5, g14.trans g5, c5, ce5, h5⟩, p.rt.at (g1.trans g14), p.nx.at (g1.trans g14), fun F5 ro5 H5 σ5 E5 m5 g5 c5 ce5 h5 => ⟨F5, ro5, E5, m5, g14.trans g5, c5, ce5, h5⟩⟩
    · have ei : i = us.length := by omega
      subst ei
      rw [List.drop_length] at h2
      exact .inl ⟨ok.stop F2 ro2 H2 m2 g2 c2 h2.1, p.nx F2 ro2 H2 σ2 E2 m2 (g1.trans g2) c2 ce2 h2.2⟩

/-! ### raise, calls that may raise -/
def xRaise (nm : Str) : XS := fun Xa _ E m => Xa nm [] E m
theorem dx_raise {rs cs : List Str} {nm m : Str} {j : Nat} {p p2 pos2 : Pos} (xt : ExT X.K X.mg rs cs) (hm : nm ∈ rs) (hc : X.calm = true) (tk : L2N.Takes X W) (hm0 : fldNm nm = [] := by decide +kernel) (hg : Gl X nm := by rfl) (hdb : (nm == ("__debug__" : Str)) = false := by decide) :
    DX X W (.Raise (some (.Call (.Name nm p) [.Constant (.str m) j p2] [] pos)) none pos2) (xRaise nm) := by
  obtain ⟨C, c⟩ := xt.cls hm
  exact ps_imp (L2N.ps_raise hc tk (L2N.pmk_own F.excBase_ValueError (c.ex hm0) c.mg c.kp (raises_own c.sb c.ty) hg hdb)) fun D σ H ⟨F, ro, E, m, Da, Xa, cm, ce, hf, p, px⟩ => px F ro H σ E m nm C none [] Gro.refl cm ce c.ns (.inl ⟨rfl, rfl⟩) hf
abbrev AXp := List U → Sto → QA → XQ → Prop
def cSpX (K : PySem.W.Frag) (a : AXp) : Sp := fun vs H Q E => ∃ F ro m us Qa Xq, ConM K F ro H m ∧ IsUs K F ro us vs ∧ a us m Qa Xq ∧ Post K F ro H Qa Q ∧ PostQ K F ro H Xq E
structure FnX (P : Program) (w : World) (K : PySem.W.Frag) (mg : Str → Option Value) (base : Heap) (k : Nat) (f : Addr) (fd : FuncData) (ps : List Str) (a : AXp) : Prop where
  len : ∀ us m Q X, a us m Q X → us.length = ps.length
  run : ∀ (A : Around) (outer : List Env) (s : Shared) (H : Hp) (args : Args) (us : List Value) (vs : List V) (Q : VK) (E : XK), Room k A → A.guards = some [] → Env0 P w K mg base A outer s H → BindsTo s fd args (ps.zip us) → Vals vs us → cSpX K a vs H Q E →
    codeAny (model P w) A (.call (.ref f) args) (CR (L2N.CX P w) outer P w H s Q E) s
def rCall (a : AXp) (t : AA) : XR := fun Xa E m Q => t E m fun us m1 => a us m1 Q fun nm pl m2 => Xa nm pl E m2
structure CalX (P : Program) (w : World) (K : PySem.W.Frag) (mg : Str → Option Value) (base : Heap) (k : Nat) (x : Str) (ps : List Str) (a : AXp) : Prop where
  ex : ∃ f fd, FnX P w K mg base k f fd ps a ∧ mg x = some (.ref f) ∧ PySem.W.keepIn K (.ref f) = true ∧ Binds K fd ps []
theorem dr_cal {k j : Nat} {ps : List Str} {a : AXp} {x : Str} {p pos : Pos} {e : Expr} {es : List Expr} {ta : AA} (c : CalX X.prog X.w X.K X.mg X.base k x ps a) (hr : Room j X.A) (hgd : X.A.guards = some []) (tk : L2N.Takes X W) (ha : DA X (e :: es) ta) (hk : k ≤ j := by decide) (hg : Gl X x := by rfl)
    (hdb : (x == ("__debug__" : Str)) = false := by decide) (he : starEach (e :: es) X.env = (false, eval e X.env) :: starEach es X.env := by rfl) (hpl : (backTo pos (starEach es X.env)).any (·.1) = false := by rfl) :
    DR X W (.Call (.Name x p) (e :: es) [] pos) (rCall a ta) := by
  obtain ⟨f, fd, F, hm, kp, hb⟩ := c.ex
  refine ⟨fun pins s σ H Q I ⟨F0, ro, E, m, Qa, Xa, cm, ce, hf, po, px⟩ => ?_⟩
  refine wpAny_Call_Name_kw (ld_glob I hg hm ?_ hdb)
  refine PySem.W.callWith_K (h₀ := X.base) I.ok.mod.kin kp (thn (ha.run pos pins s σ H (fun vs H1 => cSpX X.K a vs H1 Q (fun cls d H2 => W cls d σ H2)) I ⟨F0, ro, E, m, _, cm, ce, hf, fun F1 ro1 H1 us vs m1 g1 c1 i1 h1 =>
    ⟨F1, ro1, m1, us, Qa, _, c1, i1, h1, po.at g1, fun F2 ro2 H2 m2 nm C d pl g2 c2 hn hd hx => px F2 ro2 H2 σ E m2 nm C d pl (g1.trans g2) c2 (ce.mono (g1.trans g2)) hn hd hx⟩⟩) fun us s1 ⟨vs, H1, I1, r, q⟩ => ⟨I1.kIn, ?_⟩) he hpl
  have hl : us.length = ps.length := by
    obtain ⟨F', ro', m', us', Qa', Xq', _, iu, ha', _⟩ := q
    rw [← r.length, ← iu.length]
    exact F.len _ _ _ _ ha'
  have hb' := hb s1 us I1.kIn (by simpa using hl)
  rw [List.append_nil] at hb'
  refine wpAny_call (codeAny_mono (F.run X.A X.stack s1 H1 ⟨us, []⟩ us vs Q _ (hr.mono hk) hgd I1.env0 hb' r q) fun r s' hq => ?_)
  cases r with
  | error e => exact tk _ _ (L2N.XE.of_call I1 (fun _ _ _ h => h) hq)
  | ok fl =>
    cases fl with
    | ret u => exact I1.after hq
    | next => exact False.elim hq
    | brk => exact False.elim hq
    | cont => exact False.elim hq
variable {e : Expr} {r : XR}
theorem dx_expr (he : DR X W e r) (hs : swapsWith e none pos.line X.env = pure false := by rfl) : DX X W (.Expr e pos) (fun Xa => dExpr (r Xa)) := ps_imp (ps_expr he hs) fun D σ H ⟨F, ro, E, m, Da, Xa, c, ce, hf, p, px⟩ =>
  ⟨F, ro, E, m, _, Xa, c, ce, hf, fun F1 ro1 H1 u v m1 g1 c1 i1 h1 => p.nx F1 ro1 H1 σ E m1 g1 c1 (ce.mono g1) h1, px⟩
theorem dx_ret (he : DR X W e r) : DX X W (.Return (some e) pos) (fun Xa => dRet (r Xa)) := ps_imp (ps_ret he) fun D σ H ⟨F, ro, E, m, Da, Xa, c, ce, hf, p, px⟩ => ⟨F, ro, E, m, _, Xa, c, ce, hf, p.rt, px⟩
theorem dx_set (i : Nat) {x : Str} {pos' : Pos} (hN : X.N.Nodup) (he : DR X W e r) (hi : X.N[i]? = some x := by rfl) (hx : Loc X.env.scope x := by first | exact Or.inl rfl | exact Or.inr rfl) (hs : swapsWith e (some (.Name x pos')) pos.line X.env = pure false := by rfl)
    (hf : X.fn x = true ∨ X.env.scope.names.lookup x = some .local := by first | exact .inl rfl | exact .inr rfl | assumption) : DX X W (.Assign [.Name x pos'] e pos) (fun Xa => dAsg i (r Xa)) := ps_imp (ps_set hN hi hx he hs hf) fun D σ H ⟨F, ro, E, m, Da, Xa, c, ce, hf, p, px⟩ =>
  ⟨F, ro, E, m, _, Xa, c, ce, hf, fun F1 ro1 H1 u v m1 g1 c1 i1 h1 => p.nx F1 ro1 H1 _ _ m1 g1 c1 ((ce.mono g1).set i i1) h1, px⟩
/-- a plain expression among those that may raise -/
theorem dr_of {a : AE} (h : DE X e a) : DR X W e (fun _ => a) := pe_imp h fun σ H Q ⟨F, ro, E, m, Qa, Xa, c, ce, hf, p, px⟩ => ⟨F, ro, E, m, Qa, c, ce, hf, p⟩
/-- a cell that is handed back is frozen -/
theorem dr_frz (he : DR X W e r) : DR X W e (fun Xa => dFrz (r Xa)) := pe_imp he fun σ H Q ⟨F, ro, E, m, Qa, Xa, c, ce, hf, p, px⟩ => by
  refine ⟨F, ro, E, m, _, Xa, c, ce, hf, fun F1 ro1 H1 u v m1 g1 c1 i1 h1 => ?_, px⟩
  revert h1
  dsimp only
  split
  · rename_i k
    split
    · rename_i l el
      intro h1
      obtain ⟨a, ha, ev⟩ := i1
      subst ev
      obtain ⟨F2, c2, g2, d2⟩ := c1.freeze ha el
      exact (p.at (g1.trans g2)).god c2 d2 h1
    · rename_i l el
      intro h1
      obtain ⟨a, ha, ev⟩ := i1
      subst ev
      obtain ⟨F2, c2, g2, d2⟩ := c1.dctFreeze ha el
      exact (p.at (g1.trans g2)).god c2 d2 h1
    · exact fun h => h.elim
  · exact fun h1 => (p.at g1).god c1 i1 h1
  · exact fun h => h.elim
  · exact fun h1 => (p.at g1).go (u := .o _) c1 i1 h1
end

/-! ### try -/
def dTry (rs : List Str) (b : XS) (c : Str) (i : Nat) (s : AS) : AS := fun D E m => b (fun nm pl E1 m1 => nm ∈ rs ∧ subNm nm c = true ∧
  s ⟨fun E2 m2 => D.nx (E2.set i none) m2, D.rt, fun E2 m2 => D.bk (E2.set i none) m2, fun E2 m2 => D.ct (E2.set i none) m2⟩ (E1.set i (some (.o (.exc nm pl)))) m1) D E m
def dTryO (rs : List Str) (b : XS) (c : Str) (s : AS) : AS := fun D E m => b (fun nm pl E1 m1 => nm ∈ rs ∧ subNm nm c = true ∧ s D E1 m1) D E m
section
variable {X : Cx} {rs cs : List Str} {c n : Str} {i : Nat} {body suite : List Stmt} {b₀ : Stmt} {np pos pos' : Pos} {b : XS} {sr : AS}
theorem post_unset {K : PySem.W.Frag} {F : Hp} {ro : List Addr} {H : Hp} {Qa : En → Sto → Prop} {Q : L2.St → Hp → Prop} (p : PostS K F ro H Qa Q) (i : Nat) : PostS K F ro H (fun E m => Qa (E.set i none) m) (fun σ H => Q (σ.set i none) H) :=
  fun F' ro' H' σ' E' m' g c ce h => p F' ro' H' _ _ m' g c (ce.unset i) h
theorem ds_tryAs (xt : ExT X.K X.mg rs cs) (hcs : c ∈ cs) (hrs : rs ≠ []) (hN : X.N.Nodup)
    (hb : ∀ (W : WX) (pn : List (Addr × Obj)) (xe : Value → Shared → Prop), L2N.Takes (X.tr pn xe) W → PassesOwn (model X.prog X.w) X.A X.env xe → DXs (X.tr pn xe) W body b) (hsu : ∀ a : Addr, DSs (suiteT X a) (b₀ :: suite) sr)
    (hex : X.ex = [] := by rfl) (hs : X.stack = X.env :: X.outer := by rfl) (hf : X.env.frame = some X.env.locals := by rfl) (hi : X.N[i]? = some n := by rfl) (hln : X.env.kindOf n = some .local := by rfl) (hg : Gl X c := by rfl) (hdb : (c == ("__debug__" : Str)) = false := by decide) :
    DS X (.Try body [.ExceptHandler (some (.Name c np)) (some n) (b₀ :: suite) pos'] [] [] pos) (dTry rs b c i sr) := by
  obtain ⟨r0, hr0⟩ := List.exists_mem_of_ne_nil rs hrs
  obtain ⟨_, C, _, hC, hmC, _⟩ := xt.pair hr0 hcs
  refine ps_imp (ps_tryAs hex hs hf hN hi hln (c := .ref C) ⟨hg, hdb, .inl hmC⟩ (tb := fun W => cX X.K W b) (ts := fun _ => cS X.K sr) hb hsu) fun D σ H ⟨F, ro, E, m, Da, cm, ce, hf, p⟩ => ?_
  refine ⟨F, ro, E, m, Da, _, cm, ce, hf, p, fun F1 ro1 H1 σ1 E1 m1 nm B dd pl g1 c1 ce1 hn hdd ⟨h1, h2, h3⟩ => ?_⟩
  obtain ⟨B', C', hB', hC', _, _, hx⟩ := xt.pair h1 hcs
  cases hn.symm.trans hB'
  cases hC.symm.trans hC'
  refine ⟨by rw [hx, h2], fun a oe vs ha hz hd => ?_⟩
  obtain ⟨c2, g2⟩ := c1.known ha (excHO a oe)
  have g12 := g1.trans g2
  refine ⟨upd F1 a (excHO a oe), ro1, E1.set i (some (.o (.exc nm pl))), m1, _, c2, (ce1.mono g2).set i (u := .o (.exc nm pl)) (v := .ref a) ⟨a, oe, _, rfl, upd_same, ⟨⟨B, hz.1, hn⟩, ⟨vs, hd, hz.2.2 vs hd⟩⟩, by rw [hz.2.1]; exact hdd.mono g2.ex⟩, h3, ?_⟩
  exact ⟨post_unset (p.nx.at g12) i, p.rt.at g12, post_unset (p.bk.at g12) i, post_unset (p.ct.at g12) i⟩
theorem ds_tryO (xt : ExT X.K X.mg rs cs) (hcs : c ∈ cs) (hrs : rs ≠ [])
    (hb : ∀ (W : WX) (pn : List (Addr × Obj)) (xe : Value → Shared → Prop), L2N.Takes (X.tr pn xe) W → PassesOwn (model X.prog X.w) X.A X.env xe → DXs (X.tr pn xe) W body b) (hsu : ∀ a : Addr, DSs (suiteT X a) (b₀ :: suite) sr)
    (hex : X.ex = [] := by rfl) (hs : X.stack = X.env :: X.outer := by rfl) (hf : X.env.frame = some X.env.locals := by rfl) (hg : Gl X c := by rfl) (hdb : (c == ("__debug__" : Str)) = false := by decide) :
    DS X (.Try body [.ExceptHandler (some (.Name c np)) none (b₀ :: suite) pos'] [] [] pos) (dTryO rs b c sr) := by
  obtain ⟨r0, hr0⟩ := List.exists_mem_of_ne_nil rs hrs
  obtain ⟨_, C, _, hC, hmC, _⟩ := xt.pair hr0 hcs
  refine ps_imp (ps_tryO hex hs hf (c := .ref C) ⟨hg, hdb, .inl hmC⟩ (tb := fun W => cX X.K W b) (ts := fun _ => cS X.K sr) hb hsu) fun D σ H ⟨F, ro, E, m, Da, cm, ce, hf, p⟩ => ?_
  refine ⟨F, ro, E, m, Da, _, cm, ce, hf, p, fun F1 ro1 H1 σ1 E1 m1 nm B dd pl g1 c1 ce1 hn hdd ⟨h1, h2, h3⟩ => ?_⟩
  obtain ⟨B', C', hB', hC', _, _, hx⟩ := xt.pair h1 hcs
  cases hn.symm.trans hB'
  cases hC.symm.trans hC'
  refine ⟨by rw [hx, h2], fun a oe vs ha hz hd => ?_⟩
  obtain ⟨c2, g2⟩ := c1.known ha (excHO a oe)
  exact ⟨upd F1 a (excHO a oe), ro1, E1, m1, _, c2, ce1.mono g2, h3, p.at (g1.trans g2)⟩
end
end Z
/-! YQ: classes of exceptions with an __init__ of their own, over a class of the text. -/
/-! ### isinstance of an exception that has a dict -/
namespace PySem.W
open PySem PySem.Spec PySem.Calls PyProof.Rows
section
variable {prog : Program} {w : World} {A : Around} {E : Value → Shared → Prop} {s : Shared} {K : Frag} {x D : Addr} {ox : Obj} {od : Option Obj}
theorem z_findObj_data {C : Addr} {name : Str} {a g : Value} (hc : (clsIn K C).isSome = true) (ha : findIn K (.ref C) name = some (some a)) (hg : specialIn K a "__get__" = some (some g)) (ht : takesIn K a = some true) : findObj K C od name = some (.bind g a) := by
  obtain ⟨cd, hc⟩ := Option.isSome_iff_exists.mp hc
  unfold findObj
  rw [hc, Option.bind_some, ha, Option.bind_some]
  simp [hg, ht]
/-- e.__class__, e an exception with or without a dict -/
theorem z_class_of {Q : Option Value → Shared → Prop} (c : L2.ExcC K D) (X : K.In s.heap) (I : InstAt s.heap x ox D od) (h : Q (some (.ref D)) { s with toks := s.toks + 1 }) : wpAny (model prog w) A (getAttr? (.ref x) "__class__") Q E s := by
  obtain ⟨hga, hgt, hsub, hdct, ha, hn, htk, hm⟩ := c
  have hf : findObj K D od "__class__" = some (.bind (.builtin "getset_descriptor.__get__") (.builtin "object.__class__")) := z_findObj_data (by obtain ⟨cd, hc, _⟩ := any_some hdct; rw [hc]; rfl) ha hn htk
  obtain ⟨hp, g, d, t, os⟩ := s
  have L0 := I.type (M := model prog w)
  have L1 := looks_findIn (M := model prog w) X hga
  have L2 := looks_findIn (M := model prog w) X hgt
  have L3 := looks_find (M := model prog w) X I hf
  have sub : Looks (model prog w) hp (isInstance (.ref x) (.type "BaseException")) true := L0.andThen (looks_subIn X hsub)
  have hx0 : (false && onTheHeap (Value.builtin "BaseException.__getattribute__")) = false := rfl
  have hx2 : (Value.builtin "BaseException.__getattribute__" == Value.builtin "object.__getattribute__") = false := by decide +kernel
  have hx1 : (onTheHeap (Value.ref D) && Value.builtin "BaseException.__getattribute__" == Value.builtin "object.__getattribute__") = false := by rw [hx2]; rfl
  unfold getAttr? getAttrBy? getAttrBy
  refine wpAny_bind (wpAny_mkText (wpAny_bind (wpAny_attempt (wpAny_holding (wpAny_bind (L0.at (wpAny_bind (L1.at ?_))))))))
  show wpAny _ _ (if (onTheHeap (Value.ref D) && Value.builtin "BaseException.__getattribute__" == Value.builtin "object.__getattribute__") = true then _ else _) _ _ _
  rw [hx1, if_neg Bool.false_ne_true]
  unfold getAttrByItsOwn hookBefore
  refine wpAny_bind ?_
  rw [if_pos (show onTheHeap (Value.ref D) = true from rfl)]
  refine L2.at ?_
  refine wpAny_bind (wpAny_attempt (wpAny_holding ?_))
  unfold callGetattribute
  rw [hx0, if_neg Bool.false_ne_true]
  unfold boundAndCalled
  rw [PySem.F.excAttr_ValueError.ga.bind (.ref x)]
  refine wpAny_bind (wpAny_pure ?_)
  show wpAny _ _ (call (.builtin "BaseException.__getattribute__") [.ref x, .str "__class__" t]) _ _ _
  refine wpAny_call (codeAny_call_builtin PySem.F.excAttr_ValueError.ga.plain PySem.F.entry_bexc_ga ?_)
  refine @check_slot (model prog w) _ _ ⟨hp, g, d, t + 1, os⟩ "BaseException.__getattribute__" "BaseException" "__getattribute__" (.ref x) [.str "__class__" t] [] _ (by decide +kernel) (by decide +kernel) sub (PySem.F.args_bexc_ga (.ref x) (.str "__class__" t)) ?_
  unfold Builtin.«object.__getattribute__»
  refine wpAny_bind (wpAny_of_eq (a := ((Value.ref x : Value), [Value.str "__class__" t])) (by first | rfl | (simp only [slotArgs]; rfl)) ?_)
  refine wpAny_bind (wpAny_pure (wpAny_bind (L0.at (wpAny_bind (L3.at ?_)))))
  show wpAny _ _ (holding [Value.builtin "object.__class__"] (call (.builtin "getset_descriptor.__get__") [.builtin "object.__class__", .ref x, .ref D]) >>= ret) _ _ _
  refine wpAny_bind (wpAny_holding (wpAny_call (class_get (s := ⟨hp, g, d, t + 1, os⟩) (ox := ox) (od := od) X I hm ?_)))
  refine wpAny_pure ?_
  show wpAny _ _ (handedOut (.ref D)) _ _ _
  rw [handedOut_of (v := .ref D) rfl]
  first
    | exact wpAny_pure (wpAny_pure h)
    | exact wpAny_pure h
    | exact wpAny_pure (wpAny_bind (wpAny_pure (wpAny_pure h)))
theorem z_kitx (c : L2.ExcC K D) : KitX K (.ref x) (.ref D) (fun h => InstAt h x ox D od) where
  ty := fun _ _ _ I => I.type
  it := fun _ _ X _ => by
    obtain ⟨cdD, hcD, _⟩ := any_some c.hd
    unfold clsIn at hcD
    split at hcD
    · rename_i c' d' cd' sl' ho
      intro A' Q' E' s' k q
      unfold isType loadHead
      exact wpAny_bind (wpAny_loadPart (k _ _ (X _ _ ho)) (wpAny_pure q))
    · exact nomatch hcD
  ne := (handS_kitx_exc (x := x) (ox := ox) c.hg c.hk c.hs c.hd c.ha c.hn c.ht c.hm).ne
  ca := fun X I k => z_class_of c X I k
end
end PySem.W
namespace Z
open PySem PySem.Spec PyProof.Rows L2
/-! ### what the class says -/
def oexB (K : PySem.W.Frag) (C : Addr) : Bool := (match K.lookup C with
  | some ⟨.type "type", _, .cls cd, sl⟩ => (match cd.mro, sl.toList with
    | .ref C' :: bm, [_, _, _, _, some (.builtin n), _] => C' == C && n == "ValueError.__new__" && !cd.hasDel && cd.hasDict && PySem.HandSPX.refsVE bm
    | _, _ => false)
  | _ => false) && (PySem.W.findIn K (.ref C) "__setattr__" == some (some (.builtin "object.__setattr__"))) && (PySem.W.subIn K (.ref C) (.type "BaseException") == some true) && (PySem.W.typeIn K (.ref C) == some (.type "type")) && PySem.W.keepIn K (.ref C)
theorem oexB_ok {K : PySem.W.Frag} {C : Addr} (h : oexB K C = true) : OexC K C := by
  unfold oexB at h
  simp only [Bool.and_eq_true, beq_iff_eq] at h
  obtain ⟨⟨⟨⟨q, h1⟩, h2⟩, h3⟩, h4⟩ := h
  refine ⟨?_, h1, h2, h3, h4⟩
  split at q
  · rename_i dd cd sl ho
    split at q
    · rename_i C' bm k0 k1 k2 k3 n k5 hm hs
      simp only [Bool.and_eq_true, beq_iff_eq, Bool.not_eq_true'] at q
      obtain ⟨⟨⟨⟨rfl, rfl⟩, hdel⟩, hdc⟩, hbm⟩ := q
      obtain ⟨nm, bs, mro, ns, qn, hd, sn, sub, ab, col, del⟩ := cd
      dsimp only at hm hdel hdc
      subst hm hdel hdc
      have hsl : sl = #[k0, k1, k2, k3, some (.builtin "ValueError.__new__"), k5] := by
        obtain ⟨l⟩ := sl
        simp only at hs
        rw [hs]
      subst hsl
      exact ⟨nm, qn, ns, bs, bm, sn, sub, ab, col, dd, k0, k1, k2, k3, k5, ho, hbm⟩
    · cases q
  · cases q
section
variable {X : Cx} {e : Expr} {es : List Expr} {ta : TA} {x : Str} {p p1 p2 pos : Pos}
/-- B.__init__(self, ..), B a class of the text that leaves ValueError's -/
theorem pe_beinit {B : Addr} {mc : Value} {pl : Sem Bool} (hg : Gl X x) (hm : X.mg x = some (.ref B)) (r : ClX.CRead X.K B mc) (kf : PySem.W.findCls X.K (.ref B) mc "__init__" = some (.val (.builtin "ValueError.__init__"))) (ha : PA X (e :: es) ta)
    (hdb : (x == ("__debug__" : Str)) = false := by decide)
    (hc : eval (.Call (.Attribute (.Name x p1) "__init__" p2) (e :: es) [] pos) X.env = (do
      let ov ← eval (.Name x p1) X.env
      standAt p2.atName
      let (f, first) ← holding [ov] (getMethod ov "__init__" pl)
      callWith pos f first (backTo pos (starEach (e :: es) X.env)) (backToKw pos (keywordEach [] X.env))) := by rfl)
    (he : starEach (e :: es) X.env = (false, eval e X.env) :: starEach es X.env := by rfl) (hpl : (backTo pos (starEach es X.env)).any (·.1) = false := by rfl) :
    PE X (.Call (.Attribute (.Name x p1) "__init__" p2) (e :: es) [] pos) (tVeI X.K ta) := by
  refine ⟨fun pins s σ H Q I h => ?_⟩
  refine PySem.W.methodCall_KW (ld_glob I hg hm ?_ hdb) hc
  refine PySem.W.method_cls I.kIn r.ga (PySem.W.cls_value I.kIn r.rd kf (by decide +kernel) ?_)
  show wpAny _ _ (callWith pos (Value.builtin "ValueError.__init__") [] (backTo pos (starEach (e :: es) X.env)) []) _ _ _
  refine PyProof.Rows.callWith_method1 (thn (ha.run pos pins _ σ H _ (I.tok _) h) fun us s1 ⟨vs, H1, I1, r1, a, C, ws, ev, hl, T, ea, q⟩ => ?_) he hpl
  subst ev
  cases r1 with
  | @cons _ u0 _ ur ra rw' =>
    obtain rfl : u0 = Value.ref a := ra
    have hlen : ur.length ≤ sizeLine := by
      rw [← Paired.length rw', sizeLine_eq]
      omega
    exact oinit_ok T I1 ea hlen fun s' J => ⟨.non, H1, J, rfl, q⟩
/-- C(e, ..), C's own __init__ keeping sp; its context stays None -/
theorem pmk_oexN {C fI : Addr} {k : Nat} {fd : FuncData} {ps : List Str} {sp : Sp} (T : OexC X.K C) (iC : PySem.W.findIn X.K (.ref C) "__init__" = some (some (.ref fI))) (tI : PySem.W.typeIn X.K (.ref fI) = some (.type "function"))
    (F1 : FnOk X.prog X.w X.K X.mg X.base CX0 k fI fd ps sp) (hr : Room (k + 1) X.A) (hb : Binds X.K fd ps []) (hg : Gl X x) (hm : X.mg x = some (.ref C)) (ha : PA X (e :: es) ta)
    (hdb : (x == ("__debug__" : Str)) = false := by decide) (he : starEach (e :: es) X.env = (false, eval e X.env) :: starEach es X.env := by rfl) (hpl : (backTo pos (starEach es X.env)).any (·.1) = false := by rfl) :
    L2N.PMk X (.Call (.Name x p) (e :: es) [] pos) (tMkO C sp [] ta) := by
  intro pins s σ H Q I h
  obtain ⟨nm, q, N, bs, bm, sn, sub, ab, col, dd, k0, k1, k2, k3, k5, hC, hbm⟩ := T.cls
  refine wpAny_Call_Name_kw (ld_glob I hg hm ?_ hdb)
  refine PySem.W.callWith_K (h₀ := X.base) I.ok.mod.kin T.kC (thn (ha.run pos pins s σ H _ I h) fun us s1 ⟨vs, H1, I1, r1, hz, q1⟩ => ⟨I1.kIn, ?_⟩) he hpl
  show wpAny _ _ (call (.ref C) us) _ _ _
  obtain ⟨hp, g, dr, tk, os⟩ := s1
  have hsz : hp.objs.size ≤ hp.objs.size + 1 := Nat.le_succ _
  have hn : H1 (hp.objs.size + 1) = none := I1.hok.fresh hsz
  have hq := q1 (hp.objs.size + 1) hn
  rw [List.append_nil] at hq
  have kk : ∀ b o, hp.get? b = some o → ((hp.push (PySem.W.kdv_tup us)).push (PySem.HandSPX.excO C hp.objs.size)).get? b = some o := fun b o e => Heap.get?_push_of_some _ (Heap.get?_push_of_some _ e)
  have hget : ((hp.push (PySem.W.kdv_tup us)).push (PySem.HandSPX.excO C hp.objs.size)).get? (hp.objs.size + 1) = some (PySem.HandSPX.excO C hp.objs.size) := by heap_get
  have I2 : Inv X pins σ (upd H1 (hp.objs.size + 1) (exo (hp.objs.size + 1) C none)) ⟨(hp.push (PySem.W.kdv_tup us)).push (PySem.HandSPX.excO C hp.objs.size), g, dr, tk, os⟩ :=
    I1.laid (t' := tk) (a := hp.objs.size + 1) (o := exo (hp.objs.size + 1) C none) (h' := (hp.push (PySem.W.kdv_tup us)).push (PySem.HandSPX.excO C hp.objs.size)) kk hsz (exo_ok hget)
  have r2 : Vals (V.ref (hp.objs.size + 1) :: vs) (Value.ref (hp.objs.size + 1) :: us) := .cons rfl r1
  have hl : (Value.ref (hp.objs.size + 1) :: us ++ []).length = ps.length := by
    have e := r2.length
    rw [F1.len _ _ _ _ hq] at e
    rw [List.append_nil]
    exact e.symm
  have hus : us.length ≤ sizeLine := by
    rw [← Paired.length r1, sizeLine_eq]
    omega
  have b2 := hb _ (Value.ref (hp.objs.size + 1) :: us) I2.kIn hl
  rw [List.append_nil] at b2
  refine wpAny_call (PySem.HandSPX.call_own F.excBase_ValueError (fun Y => PySem.HandSPX.refsVE_contains Y bm hbm) (I1.kIn _ _ hC) (PySem.W.looks_findIn I1.kIn iC) (fun self => PySem.W.bind_fn I1.kIn self tI) hus
    (codeAny_mono (F1.run _ X.stack _ _ ⟨Value.ref (hp.objs.size + 1) :: us, []⟩ (Value.ref (hp.objs.size + 1) :: us) _ _ (fun _ _ _ => False) (hr.make C us []) (I2.env0.make C us []) b2 r2 hq) fun r s' hq' => ?_))
  cases r with
  | error er => exact False.elim hq'
  | ok fl =>
    cases fl with
    | ret u =>
      obtain ⟨v, H2, os2, bare2, un2, hok2, rv, ev, d, fs, ea, ed, hd1, q2⟩ := hq'
      subst ev
      obtain ⟨h2, g2, d2, t2, os'⟩ := s'
      obtain ⟨t0, G, J, kG, ge, hoe, na⟩ := mk_end0 (d2 := d2) (t2 := t2) I1 hsz kk un2 hok2 os2 bare2 ea ed hd1
      refine ⟨rv, hp.objs.size + 1, _, _, ⟨G, g2, d2, t2, os'⟩, _, .ref C, some d, rfl, J, kG, ge, hoe, ⟨rfl, rfl, fun vs hv => ?_⟩, rfl, rfl, na, rfl, bare2, raises_own T.exC T.tyC, q2⟩
      cases hv
      rfl
    | next => exact False.elim hq'
    | brk => exact False.elim hq'
    | cont => exact False.elim hq'
end
/-! ### such an __init__: it keeps its arguments as fields -/
def spInit (C : Addr) (fl : List Str) : Sp := fun vs H Q _ => ∃ (a : Addr) (ns : List Int), vs = .ref a :: ns.map .int ∧ ns.length = fl.length ∧ H a = some (exo a C none) ∧ (∀ i ∈ ns, 0 ≤ i ∧ i < 100000) ∧
  ∀ (dx : Addr) (H2 : Hp), H dx = none → dx ≠ a → H2 a = some (exo a C (some dx)) → H2 dx = some (exd dx ((fl.zip (ns.map V.int)).reverse)) → (∀ b, b ≠ a → b ≠ dx → H2 b = H b) → Q .non H2
/-- one field -/
def tI1 (K : PySem.W.Frag) (s1 fld : Str) : TS := tSeq (tDrop (tVeI K (tCons (tVar 0) (tCons (fun σ H Q => tJs [tC (.str s1), tFmt (tVar 1)] Str.empty σ H fun out H1 => Q (.str out) H1) tNil)))) (tOst K fld (tVar 0) (tVar 1))
/-- two fields -/
def tI2 (K : PySem.W.Frag) (s1 s2 s3 fld fld2 : Str) : TS := tSeq (tDrop (tVeI K (tCons (tVar 0) (tCons (fun σ H Q => tJs [tC (.str s1), tFmt (tVar 1), tC (.str s2), tFmt (tVar 2), tC (.str s3)] Str.empty σ H fun out H1 => Q (.str out) H1) tNil))))
  (tSeq (tOst K fld (tVar 0) (tVar 1)) (tOst K fld2 (tVar 0) (tVar 2)))
theorem emp_app (x : Str) : Str.empty ++ x = x := PySem.Str.empty_append x
theorem log2_small {n : Nat} (h : n < 100000) : n.log2 ≤ 17 := by
  by_cases z : n = 0
  · subst z; decide
  · have := (Nat.log2_lt z).mpr (show n < 2 ^ 17 by omega)
    omega
theorem txt_len {i : Int} (h0 : 0 ≤ i) (h1 : i < 100000) : (Str.ofString (toString i)).length ≤ 10 := by
  have e := PySem.int_text_length_le10 (k := 5) (a := i) (by decide) (by omega)
  rw [PySem.ofString_length]
  omega
section
variable {P : Program} {w : World} {K : PySem.W.Frag} {mg : Str → Option Value} {base : Heap} {st : Stmt} {qual fld fld2 s1 s2 s3 : Str} {C fI : Addr} {fd : FuncData}
theorem init1_ok (F : Fun K "__init__" qual st fI fd) (S : FnScope ["self", fld] ["self", fld] (defScope st)) (T : OexC K C) (hno : PySem.W.findIn K (.ref C) fld = some none) (hs1 : s1.length ≤ 1000)
    (body : ∀ (cdv : Value) (A : Around) (outer : List Env) (s : Shared) (H : Hp) (E : XK), PSs (cxOf CX0 P w K mg base ["self", fld] qual (defScope st) fI cdv A outer s H E) (defBody st) (tI1 K s1 fld)) :
    FnOk P w K mg base CX0 1 fI fd ["self", fld] (spInit C [fld]) := by
  obtain ⟨oc, od, kV, doc, pm, an, cdv, ct, osl, rfl, lk, hcd⟩ := F.ex
  refine fn_of lk hcd S (fun vs H Q E h => ?_) fun A outer s H vs Q E hr hsp => ⟨_, body cdv A outer s H E, ?_⟩
  · obtain ⟨a, ns, rfl, hl, _⟩ := h
    simp at hl ⊢
    exact hl
  · obtain ⟨a, ns, rfl, hl, ha, hb, q⟩ := hsp
    obtain ⟨i, rfl⟩ : ∃ i, ns = [i] := by
      match ns, hl with
      | [i], _ => exact ⟨i, rfl⟩
    have hi := hb i List.mem_cons_self
    have z := txt_len hi.1 hi.2
    have lg : i.natAbs.log2 < 1920 := Nat.lt_of_le_of_lt (log2_small (by omega)) (by decide)
    refine ⟨.ref a, rfl, s1, rfl, ?_, .int i, rfl, .inr ⟨i, rfl, lg, toString i, rfl, ?_, ?_⟩⟩
    · rw [emp_app, sizeLine_eq]; omega
    · rw [emp_app, PySem.Str.length_append, sizeLine_eq]; omega
    refine ⟨a, C, _, rfl, by simp, T, ha, ?_⟩
    refine ⟨.int i, rfl, .ref a, rfl, a, C, rfl, T, hno, .inl ⟨ha, fun dx n ne => ?_⟩⟩
    exact q dx _ n ne upd_same (by rw [upd_ne ne, upd_same]; rfl) fun b b1 b2 => by rw [upd_ne b1, upd_ne b2]
theorem init2_ok (F : Fun K "__init__" qual st fI fd) (S : FnScope ["self", fld, fld2] ["self", fld, fld2] (defScope st)) (T : OexC K C) (hno : PySem.W.findIn K (.ref C) fld = some none) (hno2 : PySem.W.findIn K (.ref C) fld2 = some none) (hs1 : s1.length ≤ 1000) (hs2 : s2.length ≤ 1000) (hs3 : s3.length ≤ 1000)
    (body : ∀ (cdv : Value) (A : Around) (outer : List Env) (s : Shared) (H : Hp) (E : XK), PSs (cxOf CX0 P w K mg base ["self", fld, fld2] qual (defScope st) fI cdv A outer s H E) (defBody st) (tI2 K s1 s2 s3 fld fld2)) :
    FnOk P w K mg base CX0 1 fI fd ["self", fld, fld2] (spInit C [fld, fld2]) := by
  obtain ⟨oc, od, kV, doc, pm, an, cdv, ct, osl, rfl, lk, hcd⟩ := F.ex
  refine fn_of lk hcd S (fun vs H Q E h => ?_) fun A outer s H vs Q E hr hsp => ⟨_, body cdv A outer s H E, ?_⟩
  · obtain ⟨a, ns, rfl, hl, _⟩ := h
    simp at hl ⊢
    exact hl
  · obtain ⟨a, ns, rfl, hl, ha, hb, q⟩ := hsp
    obtain ⟨i, j, rfl⟩ : ∃ i j, ns = [i, j] := by
      match ns, hl with
      | [i, j], _ => exact ⟨i, j, rfl⟩
    have hi := hb i (by simp)
    have hj := hb j (by simp)
    have z := txt_len hi.1 hi.2
    have z2 := txt_len hj.1 hj.2
    have lg : i.natAbs.log2 < 1920 := Nat.lt_of_le_of_lt (log2_small (by omega)) (by decide)
    have lg2 : j.natAbs.log2 < 1920 := Nat.lt_of_le_of_lt (log2_small (by omega)) (by decide)
    refine ⟨.ref a, rfl, s1, rfl, ?_, .int i, rfl, .inr ⟨i, rfl, lg, toString i, rfl, ?_, s2, rfl, ?_, .int j, rfl, .inr ⟨j, rfl, lg2, toString j, rfl, ?_, s3, rfl, ?_, ?_⟩⟩⟩
    · rw [emp_app, sizeLine_eq]; omega
    · rw [emp_app, PySem.Str.length_append, sizeLine_eq]; omega
    · rw [emp_app, PySem.Str.length_append, PySem.Str.length_append, sizeLine_eq]; omega
    · rw [emp_app, PySem.Str.length_append, PySem.Str.length_append, PySem.Str.length_append, sizeLine_eq]; omega
    · rw [emp_app, PySem.Str.length_append, PySem.Str.length_append, PySem.Str.length_append, PySem.Str.length_append, sizeLine_eq]; omega
    refine ⟨a, C, _, rfl, by simp, T, ha, ?_⟩
    refine ⟨.int i, rfl, .ref a, rfl, a, C, rfl, T, hno, .inl ⟨ha, fun dx n ne => ?_⟩⟩
    refine ⟨.int j, rfl, .ref a, rfl, a, C, rfl, T, hno2, .inr ⟨dx, _, upd_same, by rw [upd_ne ne, upd_same], by simp, ?_⟩⟩
    exact q dx _ n ne (by rw [upd_ne (Ne.symm ne), upd_same]) (by rw [upd_same]; rfl) fun b b1 b2 => by rw [upd_ne b2, upd_ne b1, upd_ne b2]
end
end Z
/-! YD: defs that may raise; isinstance of an exception. -/
namespace Z
open PySem PySem.Spec PyProof.Rows L2 StX
section
variable {P : Program} {w : World} {K : PySem.W.Frag} {mg : Str → Option Value} {base : Heap}
/-- an exception leaves the def: its own cells are forgotten -/
def endX (n : Nat) (Xq : XQ) : XA := fun nm pl _ m => Xq nm pl (m.take n)
/-- what leaves a def's body -/
abbrev leaves (E : XK) : WX := fun cls d _ H => E cls d H
theorem start_X {F0 : Hp} {ro : List Addr} {H : Hp} {m : Sto} {Xq : XQ} {E : XK} (cm : ConM K F0 ro H m) (p : PostQ K F0 ro H Xq E) : PostX K F0 ro H (endX m.length Xq) (leaves E) := fun F' ro' H' σ' E' m' nm C d pl g' c' ce hn hd hx => by
  obtain ⟨t, et, nt⟩ := g'.more
  subst et
  have cc := c'.cut
  rw [cm.len] at cc
  exact p F' ro H' _ nm C d pl g'.cut cc hn hd hx
/-- positional arguments -/
theorem bnd_pos {CX : CXT} {fd : FuncData} {ps : List Str} {A : Around} {outer : List Env} {s : Shared} {H : Hp} {E : XK} {args : Args} {us : List Value} {vs : List V} (e0 : Env0 P w K mg base A outer s H) (hb : BindsTo s fd args (ps.zip us)) (r : Vals vs us) (hl : vs.length = ps.length) :
    Bnd CX P w K mg base fd args ps A outer s H E (fun ws H2 => ws = vs ∧ H2 = H) := fun A' Ex R h => hb _ _ _ _ (h s H vs us e0 (.refl ..) rfl (fun _ _ z => z) r hl ⟨rfl, rfl⟩)
theorem CalX.mk' {k : Nat} {x : Str} {st : Stmt} {N ps : List Str} {a : AXp} {g : XS} (d : Dfn K mg x st ps) (S : FnScope N ps (defScope st)) (len : ∀ us m Q X, a us m Q X → us.length = ps.length)
    (body : ∀ (f : Addr) (cdv : Value) (A : Around) (outer : List Env) (s : Shared) (H : Hp) (E : XK), Room k (A.deeper (envOfC x (defScope st) s.heap.objs.size f cdv)) → (A.deeper (envOfC x (defScope st) s.heap.objs.size f cdv)).guards = some [] →
      L2N.Takes (cxOf (L2N.CX P w) P w K mg base N x (defScope st) f cdv A outer s H E) (leaves E) → PassesOwn (model P w) (cxOf (L2N.CX P w) P w K mg base N x (defScope st) f cdv A outer s H E).A (cxOf (L2N.CX P w) P w K mg base N x (defScope st) f cdv A outer s H E).env (cxOf (L2N.CX P w) P w K mg base N x (defScope st) f cdv A outer s H E).xe →
      DXs (cxOf (L2N.CX P w) P w K mg base N x (defScope st) f cdv A outer s H E) (leaves E) (defBody st) g)
    (sem : ∀ us m Q X, a us m Q X → g (endX m.length X) (endsD m.length Q) (startU N.length us) m) : CalX P w K mg base (k + 1) x ps a := by
  obtain ⟨f, fd, Fn, hm, hb⟩ := d.ex
  refine ⟨f, fd, ⟨len, fun A outer s H args us vs Q E hr hg e0 hbt r hsp => ?_⟩, hm, Fn.kp, hb⟩
  obtain ⟨oc, od, kV, doc, pm, an, cdv, ct, osl, rfl, lk, hcd⟩ := Fn.ex
  obtain ⟨F0, ro, m, us', Qa, Xq, cm, iu, ha, p, px⟩ := hsp
  have hl : vs.length = ps.length := by rw [← iu.length]; exact len _ _ _ _ ha
  have hpl : ps.length ≤ N.length := by have := congrArg List.length S.pre; rw [List.length_take] at this; omega
  refine run_bnd lk hcd S hr e0 (bnd_pos e0 hbt r hl) fun s2 H2 xs hx hr' => ?_
  obtain ⟨rfl, rfl⟩ := hx
  refine ⟨cX K (leaves E) g, body f cdv A outer s2 H2 E hr' hg (L2N.takes_of rfl rfl rfl rfl) (passes_of rfl), ?_⟩
  obtain ⟨ce, mt⟩ := start_parts cm iu (show xs.length ≤ N.length by omega) p
  exact ⟨F0, ro, startU N.length us', m, _, _, cm, ce, sem _ _ _ _ ha, mt, start_X cm px⟩
end

/-! ### isinstance -/
def dIsx (rs : List Str) (c : Str) (t : AE) : AE := fun E m Q => t E m fun u m1 => match u with
  | .o (.exc nm _) => nm ∈ rs ∧ Q (.v (.bool (subNm nm c))) m1
  | _ => False
def dIsxT (rs cs : List Str) (t : AE) : AE := fun E m Q => t E m fun u m1 => match u with
  | .o (.exc nm _) => nm ∈ rs ∧ Q (.v (.bool (cs.any (subNm nm)))) m1
  | _ => False
/-- no dict, or one that is known -/
def DctOk (H : Hp) (d : Option Addr) : Prop := d = none ∨ ∃ dd fs, d = some dd ∧ H dd = some (.xd fs)
theorem ExcD.ok {F H : Hp} {nm : Str} {d : Option Addr} {pl : List PyData} (h : ExcD F nm d pl) (e : Same F H) : DctOk H d := by
  rcases h with h | ⟨dd, ns, h1, _, _, h4⟩
  · exact .inl h.1
  · exact .inr ⟨dd, _, h1, e _ _ h4⟩
def rIsx (K : PySem.W.Frag) : List V → Hp → VK → Prop := fun vs H Q => ∃ (a D : Addr) (oe : Obj) (u : HO) (xs : Array Value) (c : V) (cv : Value) (b : Bool), vs = [.ref a, c] ∧ H a = some (.frz oe u) ∧ oe.cls = .ref D ∧ DctOk H oe.dict ∧ oe.data = .fields xs ∧ ExcC K D ∧
  (∀ z, RelV c z → z = cv) ∧ PySem.W.kitOne K (.ref D) cv = some b ∧ Q (.bl b) H
def rIsxT (K : PySem.W.Frag) : List V → Hp → VK → Prop := fun vs H Q => ∃ (a D t : Addr) (oe : Obj) (u : HO) (xs : Array Value) (ws : List Addr) (b : Bool), vs = [.ref a, .ref t] ∧ H a = some (.frz oe u) ∧ oe.cls = .ref D ∧ DctOk H oe.dict ∧ oe.data = .fields xs ∧ ExcC K D ∧
  H t = some (.tup (ws.map V.ref)) ∧ PySem.W.kitAny K (.ref D) (ws.map Value.ref) = some b ∧ Q (.bl b) H
theorem vals_refs : ∀ {ws : List Addr} {us : List Value}, Vals (ws.map V.ref) us → us = ws.map Value.ref
  | [], _, h => by cases h; rfl
  | _ :: _, _, h => by
    cases h with
    | cons a b => cases a; rw [vals_refs b]; rfl
section
variable {X : Cx}
theorem inst_at {pins : List (Addr × Obj)} {σ : L2.St} {H : Hp} {s : Shared} {a D : Addr} {oe : Obj} {u : HO} {xs : Array Value} (I : Inv X pins σ H s) (h : H a = some (.frz oe u)) (h1 : oe.cls = .ref D) (h2 : DctOk H oe.dict) (h3 : oe.data = .fields xs) : ∃ od, PySem.W.InstAt s.heap a oe D od := by
  obtain ⟨hget, _⟩ := I.hok a _ h
  obtain ⟨oc, od, oda, osl⟩ := oe
  dsimp only at h1 h2 h3
  subst h1 h3
  rcases h2 with rfl | ⟨dd, fs, rfl, hd⟩
  · exact ⟨none, hget, rfl, rfl, trivial⟩
  · have hx : ObjOk X.prog X.w H s.heap dd (.xd fs) := I.hok dd _ hd
    obtain ⟨mA, hns, hr⟩ := hx
    obtain ⟨od, ho, _⟩ := lookIn_ns hns
    exact ⟨some od, hget, rfl, rfl, ho⟩
theorem call_isx : CallR X (.builtin "isinstance") (rIsx X.K) := by
  intro pins s σ H vs us Q I r h
  obtain ⟨a, D, oe, u, xs, c, cv, b, rfl, ha, h1, h2, h3, ec, hcv, e, q⟩ := h
  cases r with
  | cons rx rr =>
    cases rr with
    | cons rt rr =>
      cases rr
      cases rx
      cases hcv _ rt
      obtain ⟨od, J⟩ := inst_at I ha h1 h2 h3
      exact PySem.W.kia_one (PySem.W.z_kitx ec) I.kIn J e (fun z => nomatch z) fun tk => ⟨.bl b, H, I.kept (t' := tk) fun _ _ z => z, rfl, q⟩
theorem call_isxT : CallR X (.builtin "isinstance") (rIsxT X.K) := by
  intro pins s σ H vs us Q I r h
  obtain ⟨a, D, t, oe, u, xs, ws, b, rfl, ha, h1, h2, h3, ec, ht, e, q⟩ := h
  cases r with
  | cons rx rr =>
    cases rr with
    | cons rt rr =>
      cases rr
      cases rx
      cases rt
      obtain ⟨_, its, rv, o, hget, hc, n, hdat⟩ := I.hok t _ ht
      cases vals_refs rv
      obtain ⟨oc, od, oda, osl⟩ := o
      dsimp only at hc hdat
      subst hc hdat
      obtain ⟨odd, J⟩ := inst_at I ha h1 h2 h3
      exact PySem.W.kia_tup (PySem.W.z_kitx ec) I.kIn J hget e (fun z => nomatch z) fun tk => ⟨.bl b, H, I.kept (t' := tk) fun _ _ z => z, rfl, q⟩
variable {rs cs : List Str} {e : Expr} {f : AE}
theorem de_isx {c : Str} {p1 p2 pos : Pos} (xt : ExT X.K X.mg rs cs) (hcs : c ∈ cs) (hrs : rs ≠ []) (he : DE X e f) (hm : X.mg "isinstance" = none) (hg : Gl X "isinstance" := by rfl) (hgT : Gl X c := by rfl) (hdb : (c == ("__debug__" : Str)) = false := by decide)
    (hs : starEach [e, .Name c p2] X.env = (false, eval e X.env) :: starEach [.Name c p2] X.env := by rfl) (hs2 : starEach [.Name c p2] X.env = (false, eval (.Name c p2) X.env) :: starEach [] X.env := by rfl)
    (hpl : (backTo pos (starEach [.Name c p2] X.env)).any (·.1) = false := by rfl) : DE X (.Call (.Name "isinstance" p1) [e, .Name c p2] [] pos) (dIsx rs c f) := by
  obtain ⟨r0, hr0⟩ := List.exists_mem_of_ne_nil rs hrs
  obtain ⟨_, C, _, hC, hmC, _⟩ := xt.pair hr0 hcs
  exact pe_imp (pe_callB call_isx hg hm (by decide +kernel) (pa_cons he (pa_cons (pe_glob (v := .ref C) hgT hmC rfl hdb) pa_nil hs2) hs) (he := hs) (hpl := hpl)) fun σ H Q ⟨F, ro, E, m, Qa, cm, ce, hf, p⟩ =>
    ⟨F, ro, E, m, _, cm, ce, hf, fun F1 ro1 H1 u v m1 g1 c1 i1 h1 => by
      revert h1
      split
      · rename_i nm pl
        rintro ⟨hn, h1⟩
        obtain ⟨a, oe, u, rfl, ha, ⟨⟨D, hD, hns⟩, xs, hxs, _⟩, hdi⟩ := i1
        obtain ⟨D', c1'⟩ := xt.cls hn
        obtain ⟨D'', C', q1, q2, _, q3, _⟩ := xt.pair hn hcs
        cases hns.symm.trans c1'.ns
        cases hns.symm.trans q1
        cases hC.symm.trans q2
        exact ⟨a, D, oe, u, xs, .ref C, .ref C, _, rfl, c1.ex _ _ ha, hD, hdi.ok c1.ex, hxs, c1'.is, fun z hz => hz, q3, (p.at g1).god c1 (.bl _) h1⟩
      · exact fun h => h.elim⟩
/-- .. of ValueError -/
theorem de_isxV {p1 p2 pos : Pos} (xt : ExT X.K X.mg rs cs) (he : DE X e f) (hm : X.mg "isinstance" = none) (hmT : X.mg "ValueError" = none) (hg : Gl X "isinstance" := by rfl) (hgT : Gl X "ValueError" := by rfl)
    (hs : starEach [e, .Name "ValueError" p2] X.env = (false, eval e X.env) :: starEach [.Name "ValueError" p2] X.env := by rfl) (hs2 : starEach [.Name "ValueError" p2] X.env = (false, eval (.Name "ValueError" p2) X.env) :: starEach [] X.env := by rfl)
    (hpl : (backTo pos (starEach [.Name "ValueError" p2] X.env)).any (·.1) = false := by rfl) : DE X (.Call (.Name "isinstance" p1) [e, .Name "ValueError" p2] [] pos) (dIsx rs "ValueError" f) := by
  exact pe_imp (pe_callB call_isx hg hm (by decide +kernel) (pa_cons he (pa_cons (pe_bltn (v := .ty "ValueError") hgT hmT (u := .type "ValueError") (by decide +kernel) rfl) pa_nil hs2) hs) (he := hs) (hpl := hpl)) fun σ H Q ⟨F, ro, E, m, Qa, cm, ce, hf, p⟩ =>
    ⟨F, ro, E, m, _, cm, ce, hf, fun F1 ro1 H1 u v m1 g1 c1 i1 h1 => by
      revert h1
      split
      · rename_i nm pl
        rintro ⟨hn, h1⟩
        obtain ⟨a, oe, u, rfl, ha, ⟨⟨D, hD, hns⟩, xs, hxs, _⟩, hdi⟩ := i1
        obtain ⟨D', c1'⟩ := xt.cls hn
        cases hns.symm.trans c1'.ns
        have et : subNm nm "ValueError" = true := by unfold subNm; simp
        rw [et] at h1
        exact ⟨a, D, oe, u, xs, .ty "ValueError", .type "ValueError", true, rfl, c1.ex _ _ ha, hD, hdi.ok c1.ex, hxs, c1'.is, fun z hz => hz, c1'.val, (p.at g1).god c1 (.bl _) h1⟩
      · exact fun h => h.elim⟩
/-- .. of a tuple of classes -/
inductive NamesC (X : Cx) : List Expr → List Str → Prop
  | nil : NamesC X [] []
  | cons {c : Str} {p : Pos} {es : List Expr} {ks : List Str} (h : NamesC X es ks) (hg : Gl X c := by rfl) (hdb : (c == ("__debug__" : Str)) = false := by decide) : NamesC X (.Name c p :: es) (c :: ks)
theorem pa_names (xt : ExT X.K X.mg rs cs) (hrs : rs ≠ []) {es : List Expr} {ks : List Str} (h : NamesC X es ks) : (∀ c ∈ ks, c ∈ cs) → ∃ ws : List Addr, ws.length = ks.length ∧ PA X es (fun σ H Q => Q (ws.map V.ref) H) ∧
    ∀ nm ∈ rs, ∀ D, PySem.W.nsIn X.K mainGlobals nm = some (some (.ref D)) → PySem.W.kitAny X.K (.ref D) (ws.map Value.ref) = some (ks.any (subNm nm)) := by
  induction h with
  | nil => exact fun _ => ⟨[], rfl, pa_imp pa_nil fun _ _ _ h => h, fun nm _ D _ => rfl⟩
  | cons h hg hdb ih =>
    intro hk
    rename_i c p es ks
    obtain ⟨ws, wl, hp, hq⟩ := ih fun c hc => hk c (List.mem_cons_of_mem _ hc)
    obtain ⟨r0, hr0⟩ := List.exists_mem_of_ne_nil rs hrs
    obtain ⟨_, C, _, hC, hmC, _⟩ := xt.pair hr0 (hk c List.mem_cons_self)
    refine ⟨C :: ws, by rw [List.length_cons, List.length_cons, wl], pa_imp (pa_cons (pe_glob (v := .ref C) hg hmC rfl hdb) hp rfl) fun _ _ _ h => h, fun nm hn D hD => ?_⟩
    obtain ⟨D', C', q1, q2, _, q3, _⟩ := xt.pair hn (hk c List.mem_cons_self)
    cases hD.symm.trans q1
    cases hC.symm.trans q2
    rw [List.map_cons, PySem.W.kitAny, q3, List.any_cons]
    cases subNm nm c with
    | true => rfl
    | false => exact hq nm hn D hD
theorem de_isxT {es : List Expr} {ks : List Str} {kk : Nat} {p1 tpos pos : Pos} (xt : ExT X.K X.mg rs cs) (hrs : rs ≠ []) (he : DE X e f) (hm : X.mg "isinstance" = none) (hn : NamesC X es ks) (hks : ∀ c ∈ ks, c ∈ cs) (hz : ks.length ≤ 100) (hg : Gl X "isinstance" := by rfl)
    (hs : starEach [e, .Tuple es kk tpos] X.env = (false, eval e X.env) :: starEach [.Tuple es kk tpos] X.env := by rfl) (hs2 : starEach [.Tuple es kk tpos] X.env = (false, eval (.Tuple es kk tpos) X.env) :: starEach [] X.env := by rfl)
    (hpl : (backTo pos (starEach [.Tuple es kk tpos] X.env)).any (·.1) = false := by rfl) : DE X (.Call (.Name "isinstance" p1) [e, .Tuple es kk tpos] [] pos) (dIsxT rs ks f) := by
  obtain ⟨ws, wl, hp, hq⟩ := pa_names xt hrs hn hks
  exact pe_imp (pe_callB call_isxT hg hm (by decide +kernel) (pa_cons he (pa_cons (pe_tup hp) pa_nil hs2) hs) (he := hs) (hpl := hpl)) fun σ H Q ⟨F, ro, E, m, Qa, cm, ce, hf, p⟩ =>
    ⟨F, ro, E, m, _, cm, ce, hf, fun F1 ro1 H1 u v m1 g1 c1 i1 h1 => by
      revert h1
      split
      · rename_i nm pl
        rintro ⟨hn, h1⟩
        obtain ⟨a, oe, u, rfl, ha, ⟨⟨D, hD, hns⟩, xs, hxs, _⟩, hdi⟩ := i1
        obtain ⟨D', c1'⟩ := xt.cls hn
        cases hns.symm.trans c1'.ns
        refine ⟨by rw [List.length_map, wl, sizeLine_eq]; omega, fun t ht => ?_⟩
        obtain ⟨c2, g2⟩ := c1.known ht (.tup (ws.map V.ref))
        exact ⟨a, D, t, oe, u, xs, ws, _, rfl, c2.ex _ _ (g2.ex _ _ ha), hD, (hdi.mono g2.ex).ok c2.ex, hxs, c1'.is, upd_same, hq nm hn D hns, (p.at (g1.trans g2)).god c2 (.bl _) h1⟩
      · exact fun h => h.elim⟩
end
end Z
/-! YE: list(range(a, b)) for ints of any size. -/
namespace Z
open PySem PySem.Spec PyProof.Rows L2
section
variable {prog : Program} {w : World} {A : Around} {s : Shared} {R : Result → Shared → Prop} {r S : Addr} {a b : Int} {t u v : Tok} {n : Nat}
abbrev longO (a : Int) (n : Nat) : Obj := { cls := .type "longrange_iterator", data := .fields #[rawInt a, rawInt (n : Int), rawInt 1] }
/-- the list at S, empty, takes all of a range of great ints -/
theorem fill_long (calm : A.handled = none) (hr : IsRange s.heap r a b 1 t u v) (big : Builtin.Range.small a b 1 = false) (hn : Builtin.Range.rangeSize a b 1 = n) (few : n ≤ 2 ^ 24) {c : Nat}
    (hS : s.heap.get? S = some { cls := .type "list", dict := none, data := .seq #[] c, slots := #[] })
    (done : ∀ h' k acc c', (∀ x o, x ≠ S → s.heap.get? x = some o → h'.get? x = some o) → h'.get? S = some { cls := .type "list", dict := none, data := .seq acc c', slots := #[] } → ItemsOf (fun i z => ∃ t, z = .int (a + i * 1) t) acc n →
      R (.ok (.ret .none)) { s with heap := h', toks := k }) :
    wpAny (model prog w) A.in1 (Builtin.List.listExtendWith (.ref S) (.ref r) .none) (fun fin s' => match fin with | .done f => R (.ok f) s' | .again c' => c'.quiet = true ∧ codeAny (model prog w) A c' R s') (fun e s' => R (.error e) s') s := by
  have ne : S ≠ r := fun e => by
    rw [e, hr] at hS
    simp at hS
  have nI : S ≠ s.heap.objs.size := Nat.ne_of_lt (Heap.lt_size hS)
  have go : ∀ (h : Heap) (c1 k : Nat), IsLongIter h s.heap.objs.size (a + ((0 : Nat) : Int) * 1) ((n : Int) - ((0 : Nat) : Int)) 1 → (∀ x o, x ≠ S → s.heap.get? x = some o → h.get? x = some o) → h.get? S = some { cls := .type "list", data := .seq #[] c1 } →
      codeAny (model prog w) A (.builtin "list.extend.loop" ⟨[.ref S, .ref s.heap.objs.size, .none], []⟩) R { s with heap := h, toks := k } := fun h c1 k st keep at0 => by
    refine codeAny_extend_loopS (Walks.longrange (prog := prog) (w := w) (A := A.in1) calm s.heap.objs.size a 1 n).toS (by rw [sizeLine_eq]; omega) S (fun m => nI (List.mem_singleton.mp m)) .none n 0 _ #[] c1 rfl (Nat.zero_le _) st at0 (ItemsOf.nil _) fun s' acc c' mv at1 items => ?_
    rw [Moved.eq_with mv]
    refine done s'.heap s'.toks acc c' (fun x o hx e => mv.heap x o (fun m => ?_) (keep x o hx e)) at1 items
    rcases List.mem_cons.mp m with z | z
    · exact hx z
    · rw [List.mem_singleton.mp z] at e
      exact Nat.lt_irrefl _ (Heap.lt_size e)
  unfold Builtin.List.listExtendWith
  have f1 : Builtin.List.listSameRef (.ref S) (.ref r) = false := by simp [Builtin.List.listSameRef, ne]
  refine wpAny_bind (wpAny_typeOf (T := "range") ⟨_, hr, rfl⟩ ?_)
  simp only [f1, show (Value.type "range" == Value.type "list") = false by decide, show (Value.type "range" == Value.type "tuple") = false by decide, Bool.or_false, Bool.false_eq_true, if_false]
  refine wpAny_bind (wpAny_pyIter_longrange hr big ?_)
  rw [hn]
  have laid : ∀ {x : Addr} {o : Obj}, s.heap.get? x = some o → (s.heap.push (longO a n)).get? x = some o := fun e => Heap.get?_push_of_some _ e
  refine wpAny_bind (wpAny_holding (wpAny_hint_range (n := n) (laid hr) hn few ?_))
  have st : IsLongIter (s.heap.push (longO a n)) s.heap.objs.size (a + ((0 : Nat) : Int) * 1) ((n : Int) - ((0 : Nat) : Int)) 1 := by
    show (s.heap.push (longO a n)).get? s.heap.objs.size = _
    simpa using Heap.get?_push_size _ rfl
  refine wpAny_ite_split (fun _ => ?_) fun _ => wpAny_pure ⟨plainId_quiet F.plain_extend_loop _, go _ c _ st (fun x o _ e => laid e) (laid hS)⟩
  refine wpAny_bind (wpAny_rule (wpAny_bind ?_))
  show wpAny _ _ (updateSeq S (·.push .none) >>= fun _ => updateSeq S (·.pop)) _ _ _
  have e1 := Heap.get?_update_self (Obj.mapSeq (·.push Value.none)) (laid hS) rfl
  refine wpAny_bind (wpAny_updateSeq (laid hS) rfl (wpAny_updateSeq (hz := by seq_fits) e1 rfl ?_))
  refine wpAny_pure ⟨plainId_quiet F.plain_extend_loop _, go _ _ _ ?_ (fun x o hx e => ?_) (Heap.get?_update_self (Obj.mapSeq (·.pop)) e1 rfl)⟩
  · exact (Heap.get?_update_other _ _ nI).trans ((Heap.get?_update_other _ _ nI).trans st)
  · exact (Heap.get?_update_other _ _ (Ne.symm hx)).trans ((Heap.get?_update_other _ _ (Ne.symm hx)).trans (laid e))
end
section
variable {prog : Program} {w : World} {A : Around} {E : Value → Shared → Prop} {s : Shared} {r : Addr} {a b : Int} {t u v : Tok} {n : Nat}
theorem list_long {Q : Value → Shared → Prop} (calm : A.handled = none) (hr : IsRange s.heap r a b 1 t u v) (big : Builtin.Range.small a b 1 = false) (hn : Builtin.Range.rangeSize a b 1 = n) (few : n ≤ 2 ^ 24)
    (hQ : ∀ h' k acc c', (∀ x o, s.heap.get? x = some o → h'.get? x = some o) → h'.get? s.heap.objs.size = some { cls := .type "list", dict := none, data := .seq acc c', slots := #[] } → ItemsOf (fun i z => ∃ t, z = .int (a + i * 1) t) acc n →
      Q (.ref s.heap.objs.size) { s with heap := h', toks := k }) : wpAny (model prog w) A (call (.type "list") [.ref r]) Q E s := by
  refine callType_codes (Q₁ := fun obj s₁ => obj = .ref s.heap.objs.size ∧ s₁ = { s with heap := s.heap.push { cls := .type "list", data := .seq #[] } }) F.called_list (F.typeCall_list_1 _) F.entry_list_init (code_list_new _ ⟨rfl, rfl⟩) fun obj s₁ ⟨e1, e2⟩ => ?_
  subst e1 e2
  have new : (s.heap.push { cls := .type "list", data := .seq #[] }).get? s.heap.objs.size = some { cls := .type "list", data := .seq #[] } := Heap.get?_push_size _ rfl
  have e2 := Heap.get?_update_self (Obj.mapSeq (fun _ => (#[] : Array Value))) new rfl
  have off : ∀ {x : Addr} {o : Obj}, x ≠ s.heap.objs.size → (s.heap.push { cls := .type "list", data := .seq #[] }).get? x = some o → ((s.heap.push { cls := .type "list", data := .seq #[] }).update s.heap.objs.size (Obj.mapSeq (fun _ => (#[] : Array Value)))).get? x = some o :=
    fun hx e => (Heap.get?_update_other _ _ (Ne.symm hx)).trans e
  have old : ∀ {x : Addr} {o : Obj}, s.heap.get? x = some o → x ≠ s.heap.objs.size := fun e => Nat.ne_of_lt (Heap.lt_size e)
  refine ⟨⟨_, new, rfl⟩, F.args_list_init_2 _ _, ?_⟩
  show wpAny _ _ (do let o ← Builtin.List.listItems (.ref s.heap.objs.size); Builtin.List.listUpdate (.ref s.heap.objs.size) (fun _ => #[]); letGo o.toList.reverse; Builtin.List.listExtendWith (.ref s.heap.objs.size) (.ref r) .none) _ _ _
  refine wpAny_bind ?_
  unfold Builtin.List.listItems
  refine wpAny_bind (wpAny_seqItems new rfl (wpAny_pure ?_))
  show wpAny _ _ (updateSeq s.heap.objs.size (fun _ => #[]) >>= fun _ => letGo (#[] : Array Value).toList.reverse >>= fun _ => Builtin.List.listExtendWith (.ref s.heap.objs.size) (.ref r) .none) _ _ _
  refine wpAny_bind (wpAny_updateSeq new rfl (wpAny_bind (wpAny_letGo ?_)))
  refine fill_long (A := A.in1) calm (off (old hr) (Heap.get?_push_of_some _ hr)) big hn few e2 fun h' k acc c' keep at1 items => ?_
  exact ⟨rfl, hQ h' k acc c' (fun x o e => keep x o (old e) (off (old e) (Heap.get?_push_of_some _ e))) at1 items⟩
end
section
variable {X : Cx}
theorem pe_listRgZ {e : Expr} {te : L2.St → Hp → (Int → Int → Hp → Prop) → Prop} {p pos : Pos} (hc : X.calm = true) (hg : Gl X "list") (hm : X.mg "list" = none) (he : PRg X e te) (na : starEach [e] X.env = (false, eval e X.env) :: starEach [] X.env := by rfl) :
    PE X (.Call (.Name "list" p) [e] [] pos) (fun σ H Q => te σ H fun a b H1 => (b - a).toNat ≤ 2 ^ 24 ∧ ∀ q, H1 q = none → Q (.ref q) (upd H1 q (.lst (rgV a b)))) := by
  refine ⟨fun pins s σ H Q I h => ?_⟩
  refine Call_ (ld_blt I hg hm boot_list (PyProof.Rows.callWith_type1 (args_cons (thn (he pins s σ H _ I h) fun x s1 ⟨r, a, b, t, u, v, H1, ex, hr, I1, ok, q⟩ => args_nil ?_) na) na))
  subst ex
  have fin : ∀ h' k acc c', (∀ x o, s1.heap.get? x = some o → h'.get? x = some o) → h'.get? s1.heap.objs.size = some { cls := .type "list", dict := none, data := .seq acc c', slots := #[] } → ItemsOf (fun i z => ∃ t, z = .int (a + i * 1) t) acc (b - a).toNat →
      EP X pins σ Q (.ref s1.heap.objs.size) { s1 with heap := h', toks := k } := fun h' k acc c' keep at1 items =>
    ⟨.ref s1.heap.objs.size, upd H1 s1.heap.objs.size (.lst (rgV a b)), I1.laid keep (Nat.le_refl _) (show ObjOk X.prog X.w _ _ _ (.lst (rgV a b)) from ⟨by rw [rgV_length, sizeLine_eq]; omega, acc.toList, c', vals_rg items, by rw [Array.toArray_toList]; exact at1⟩), rfl, q _ (I1.hok.fresh (Nat.le_refl _))⟩
  cases sm : Builtin.Range.small a b 1 with
  | true => exact call_list_range (n := (b - a).toNat) (I1.ok.hd hc) hr sm (rangeSize_nat a b) ok fin
  | false => exact list_long (n := (b - a).toNat) (I1.ok.hd hc) hr sm (rangeSize_nat a b) ok fin
def dLRgZ (mu : Bool) (ta tb : AE) : AE := fun E m Q => ta E m fun u m1 => tb E m1 fun w m2 => match u, w with
  | .v (.int a), .v (.int b) => (b - a).toNat ≤ 2 ^ 24 ∧ nw mu (rngD a (b - a).toNat) m2 Q
  | _, _ => False
theorem de_listRgZ (mu : Bool) {p p2 : Pos} {pos2 pos : Pos} {a b : Expr} {f g : AE} (hc : X.calm = true) (hm : X.mg "list" = none) (hm2 : X.mg "range" = none) (ha : DE X a f) (hb : DE X b g) (hg : Gl X "list" := by rfl) (hg2 : Gl X "range" := by rfl)
    (na : starEach [a, b] X.env = (false, eval a X.env) :: starEach [b] X.env := by rfl) (na2 : starEach [b] X.env = (false, eval b X.env) :: starEach [] X.env := by rfl) (hp : (backTo pos2 (starEach [b] X.env)).any (·.1) = false := by rfl) (nb : starEach [.Call (.Name "range" p2) [a, b] [] pos2] X.env = (false, eval (.Call (.Name "range" p2) [a, b] [] pos2) X.env) :: starEach [] X.env := by rfl) :
    DE X (.Call (.Name "list" p) [.Call (.Name "range" p2) [a, b] [] pos2] [] pos) (dLRgZ mu f g) :=
  pe_imp (pe_listRgZ hc hg hm (prg_2 hg2 hm2 ha hb na na2 hp) nb) fun σ H Q ⟨F, ro, E, m, Qa, cm, ce, hf, p⟩ =>
    ⟨F, ro, E, m, _, cm, ce, hf, fun F1 ro1 H1 u v m1 g1 c1 i1 h1 => ⟨F1, ro1, E, m1, _, c1, ce.mono g1, h1, fun F2 ro2 H2 w x m2 g2 c2 i2 h2 => by
      revert h2
      split
      · rename_i n k
        intro h2
        cases i1.mono g2
        cases i2
        exact ⟨_, _, rfl, rfl, h2.1, (p.at (g1.trans g2)).nw c2 mu (rng_is _ _) h2.2⟩
      · exact fun h => h.elim⟩⟩
end
end Z
/-! YG: zip of any number of lists of one length. -/
namespace Z.ZN
open PySem PySem.Spec PyProof.Rows L2 RZ
section
variable {prog : Program} {w : World} {A : Around} {E : Value → Shared → Prop} {s : Shared}
/-- a for in the model, by a word of the turns -/
theorem forIn_wp {α β : Type} {M : Model} {A : Around} {E : Value → Shared → Prop} {body : α → β → Sem (ForInStep β)} {Q : β → Shared → Prop} (I : Nat → β → Shared → Prop) : ∀ (l : List α) (i : Nat) (b : β) (s : Shared), I i b s →
    (∀ (j : Nat) (x : α), l[j]? = some x → ∀ b s, I (i + j) b s → wpAny M A (body x b) (fun r s' => ∃ b', r = .yield b' ∧ I (i + j + 1) b' s') E s) →
    (∀ b s, I (i + l.length) b s → Q b s) → wpAny M A (forIn l b body) Q E s
  | [], i, b, s, h, _, q => by
    rw [List.forIn_nil]
    exact wpAny_pure (q b s h)
  | x :: l, i, b, s, h, st, q => by
    rw [List.forIn_cons]
    refine wpAny_bind (wpAny_mono (st 0 x rfl b s h) (fun r s1 ⟨b', er, h'⟩ => ?_) fun _ _ e => e)
    subst er
    refine forIn_wp I l (i + 1) b' s1 h' (fun j y hy b s hI => ?_) fun b s hI => ?_
    · have := st (j + 1) y (by rw [List.getElem?_cons_succ]; exact hy) b s (by rw [show i + (j + 1) = i + 1 + j by omega]; exact hI)
      rw [show i + (j + 1) + 1 = i + 1 + j + 1 by omega] at this
      exact this
    · exact q b s (by rw [List.length_cons, show i + (l.length + 1) = i + 1 + l.length by omega]; exact hI)
/-- a zip object, its first two fields v0 and v1 -/
abbrev IsZ (h : Heap) (z TI TO : Addr) (v0 v1 : Value) : Prop :=
  h.get? z = some { cls := .type "zip", dict := none, data := .fields #[v0, v1, .bool false, .ref TI, .ref TO], slots := #[] }
abbrev IsT (h : Heap) (T : Addr) (vs : Array Value) : Prop := h.get? T = some { cls := .type "tuple", data := .seq vs }
theorem updateSeq_T {T : Addr} {vs : Array Value} {x : Value} {k : Nat} {Q : Unit → Shared → Prop} (hs : vs.size ≤ sizeLine) (hT : IsT s.heap T vs)
    (h : ∀ h', IsT h' T (vs.setIfInBounds k x) → Heap.SameBut T s.heap h' → Q () { s with heap := h' }) :
    wpAny (model prog w) A (updateSeq T (·.setIfInBounds k x)) Q E s := by
  refine wpAny_updateSeq hT rfl (h _ ?_ (Heap.SameBut.update ..)) (hz := by first | exact hs | simp; exact hs) (_hz' := by simp; omega)
  show _ = _
  rw [Heap.get?_update_self _ hT rfl]
  simp [Obj.mapSeq]
/-- what stands apart: the zip, its tuples, the iterators, the lists -/
structure Ap (z TI TO : Addr) (its ls : List Addr) : Prop where
  TIz : TI ≠ z
  TOz : TO ≠ z
  TIO : TI ≠ TO
  iz : ∀ i ∈ its, i ≠ z ∧ i ≠ TI ∧ i ≠ TO
  nd : its.Nodup
  lz : ∀ l ∈ ls, l ≠ z ∧ l ≠ TO ∧ ∀ i ∈ its, l ≠ i
  ln : ls.length = its.length
/-- the iterators: the first j have gone on -/
def Its (h : Heap) (its ls : List Addr) (k j : Nat) : Prop := ∀ (n : Nat) (i l : Addr), its[n]? = some i → ls[n]? = some l → h.IsListIter i l (if n < j then k + 1 else k)
def Ls (h : Heap) (ls : List Addr) (xss : List (Array Value)) : Prop := ls.length = xss.length ∧ ∀ (n : Nat) (l : Addr) (xs : Array Value), ls[n]? = some l → xss[n]? = some xs → h.IsList l xs
/-- the items of a turn -/
def Row (xss : List (Array Value)) (k : Nat) (row : List Value) : Prop := row.length = xss.length ∧ ∀ (n : Nat) (xs : Array Value), xss[n]? = some xs → xs[k]? = row[n]?
/-- the tuple is free: none is out, or it is gone -/
def Fr0 (h : Heap) (v0 : Value) : Prop := v0 = .none ∨ ∃ T : Nat, v0 = rawInt (T : Int) ∧ h.get? T = none
theorem free_step {z TI TO : Addr} {v0 v1 : Value} {Q : Bool → Shared → Prop} (hf : Fr0 s.heap v0) (hz : IsZ s.heap z TI TO v0 v1) (h : Q true s) : wpAny (model prog w) A (Builtin.SmallTypes.ownedTupleIsFree (.ref z)) Q E s := by
  unfold Builtin.SmallTypes.ownedTupleIsFree
  rcases hf with rfl | ⟨T, rfl, hT⟩
  · exact wpAny_bind (wpAny_field hz rfl (x := .none) rfl (wpAny_pure h))
  · refine wpAny_bind (wpAny_field hz rfl (x := rawInt T) rfl ?_)
    show wpAny _ _ (loadIfAlive ((T : Int).toNat) >>= _) _ _ _
    rw [Int.toNat_natCast]
    have alive : ∀ {Q : Option Obj → Shared → Prop}, Q none s → wpAny (model prog w) A (loadIfAlive T) Q E s := fun {Q} h => by
      have h' : Q (s.heap.get? T) s := by rw [hT]; exact h
      exact fun _ _ _ => h'
    refine wpAny_bind (alive ?_)
    simp only [Option.isNone_none, if_true]
    exact wpAny_pure h
theorem next_free {z TI TO : Addr} {v0 : Value} {f : Bool} {its ls : List Addr} {xss : List (Array Value)} {row : List Value} {k : Nat} {old : Array Value} {Q : Value → Shared → Prop} (D : Ap z TI TO its ls) (ne : its ≠ [])
    (hf : Fr0 s.heap v0) (hz : IsZ s.heap z TI TO v0 (.bool f)) (hTI : IsT s.heap TI (its.map Value.ref).toArray) (hTO : IsT s.heap TO old) (hn : old.size = its.length) (hle : its.length ≤ 1000)
    (hi : Its s.heap its ls k 0) (hl : Ls s.heap ls xss) (hr : Row xss k row)
    (hQ : ∀ h', IsZ h' z TI TO (rawInt s.heap.objs.size) (.bool false) → IsT h' TO row.toArray → Its h' its ls k its.length → IsT h' s.heap.objs.size row.toArray → h'.objs.size = s.heap.objs.size + 1 →
      (∀ c o, c ≠ z → c ≠ TO → c ∉ its → s.heap.get? c = some o → h'.get? c = some o) → Q (.ref s.heap.objs.size) { s with heap := h' }) :
    wpAny (model prog w) A (Builtin.«zip.__next__» ⟨[.ref z], []⟩) (fun fin s' => ∃ v, fin = .done (.ret v) ∧ Q v s') E s := by
  show wpAny _ _ (field (.ref z) 2 >>= _) _ _ _
  refine wpAny_bind (wpAny_field hz rfl (x := .bool false) rfl ?_)
  show wpAny _ _ (field (.ref z) 3 >>= _) _ _ _
  refine wpAny_bind (wpAny_field hz rfl (x := .ref TI) rfl ?_)
  refine wpAny_bind (wpAny_seqItems hTI rfl ?_)
  have e0 : ((its.map Value.ref).toArray).isEmpty = false := by cases its with | nil => exact absurd rfl ne | cons a r => rfl
  simp only [e0, Bool.false_eq_true, if_false]
  refine wpAny_bind (free_step hf hz ?_)
  simp only [if_true]
  refine wpAny_bind (wpAny_rule ?_)
  refine wpAny_bind (wpAny_field hz rfl (x := .ref TO) rfl ?_)
  refine wpAny_bind (wpAny_setField_rec hz (by simp) fun h₁ hz₁ hs₁ => ?_)
  replace hz₁ : IsZ h₁ z TI TO .ellipsis (.bool f) := hz₁
  refine wpAny_bind ?_
  refine forIn_wp (fun j b s' => b = (none, ()) ∧ ∃ h' vs, s' = { s with heap := h' } ∧ IsZ h' z TI TO .ellipsis (.bool f) ∧ IsT h' TO vs ∧ vs.size = its.length ∧ (∀ n, n < j → vs[n]? = row[n]?) ∧ Its h' its ls k j ∧ h'.objs.size = s.heap.objs.size ∧
      (∀ c o, c ≠ z → c ≠ TO → c ∉ its → s.heap.get? c = some o → h'.get? c = some o)) _ 0 _ _ ⟨rfl, h₁, old, rfl, hz₁, hs₁.extBut _ _ D.TOz hTO, hn, fun n hn => absurd hn (Nat.not_lt_zero _), fun n i l hi1 hl1 => (hi n i l hi1 hl1).extBut hs₁.extBut (D.iz i (List.mem_of_getElem? hi1)).1, hs₁.1, fun c o c1 _ _ e => hs₁.extBut _ _ c1 e⟩ ?_ ?_
  · rintro j ⟨x, n⟩ hx b s' ⟨rfl, h', vs, rfl, hz', hTO', hv, hrow, hI, hsz, hk⟩
    obtain ⟨i, hi1, rfl, rfl⟩ : ∃ i, its[j]? = some i ∧ x = .ref i ∧ n = j := by
      rw [List.getElem?_zipIdx, List.getElem?_map] at hx
      cases hq : its[j]? with
      | none => rw [hq] at hx; cases hx
      | some i =>
        rw [hq] at hx
        simp only [Option.map_some, Option.some.injEq, Prod.mk.injEq] at hx
        exact ⟨i, rfl, hx.1.symm, by omega⟩
    have jl : n < its.length := (List.getElem?_eq_some_iff.mp hi1).1
    have llen := D.ln
    have xlen := hl.1
    have rlen := hr.1
    obtain ⟨l, hl1⟩ : ∃ l, ls[n]? = some l := ⟨_, List.getElem?_eq_getElem (by omega)⟩
    obtain ⟨xs, hx1⟩ : ∃ xs, xss[n]? = some xs := ⟨_, List.getElem?_eq_getElem (by omega)⟩
    obtain ⟨v, hv1⟩ : ∃ v, row[n]? = some v := ⟨_, List.getElem?_eq_getElem (by omega)⟩
    have hxk : xs[k]? = some v := (hr.2 n xs hx1).trans hv1
    have im := List.mem_of_getElem? hi1
    have lm := D.lz l (List.mem_of_getElem? hl1)
    have hlist : h'.IsList l xs := by
      obtain ⟨o, ho, r⟩ := hl.2 n l xs hl1 hx1
      exact ⟨o, hk l o lm.1 lm.2.1 (fun h => lm.2.2 l h rfl) ho, r⟩
    have hit : h'.IsListIter i l k := by
      have := hI n i l hi1 hl1
      rw [if_neg (by omega)] at this
      exact this
    refine wpAny_bind (wpAny_onRaise ?_)
    show wpAny _ _ (Builtin.SmallTypes.nextOf (.ref i) >>= _) _ _ _
    refine wpAny_bind (wpAny_nextOf_list_item (s := { s with heap := h' }) hit hlist hxk fun h2 it2 hs2 => wpAny_pure ?_)
    have hTO2 : IsT h2 TO vs := hs2.extBut _ _ (D.iz i im).2.2.symm hTO'
    refine wpAny_bind (wpAny_seqItems hTO2 rfl ?_)
    refine wpAny_bind (updateSeq_T (s := { s with heap := h2 }) (k := n) (by rw [hv, sizeLine_eq]; omega) hTO2 fun h3 hTO3 hs3 => ?_)
    refine wpAny_bind (wpAny_letGo (wpAny_pure ?_))
    refine ⟨_, rfl, rfl, h3, _, rfl, hs3.extBut _ _ D.TOz.symm (hs2.extBut _ _ (D.iz i im).1.symm hz'), hTO3, by simp [hv], fun q hq => ?_, fun q i' l' hi' hl' => ?_, ?_, fun c o c1 c2 c3 e => hs3.extBut _ _ c2 (hs2.extBut _ _ (fun z => c3 (z ▸ im)) (hk c o c1 c2 c3 e))⟩
    · by_cases e : q = n
      · subst e
        rw [Array.getElem?_setIfInBounds_self_of_lt (by omega), hv1]
      · rw [Array.getElem?_setIfInBounds_ne (by omega)]
        exact hrow q (by omega)
    · have im' := List.mem_of_getElem? hi'
      by_cases e : q = n
      · subst e
        rw [hi1] at hi'
        rw [hl1] at hl'
        cases hi'
        cases hl'
        rw [if_pos (by omega)]
        exact it2.extBut hs3.extBut (D.iz i im).2.2
      · have ne' : i' ≠ i := fun z => by
          subst z
          have q1 := (List.getElem?_eq_some_iff.mp hi').1
          have := (List.getElem?_inj q1 D.nd).mp (hi'.trans hi1.symm)
          exact e this
        have := hI q i' l' hi' hl'
        have e2 : (if q < 0 + n + 1 then k + 1 else k) = if q < 0 + n then k + 1 else k := by
          by_cases z : q < n
          · rw [if_pos (by omega), if_pos (by omega)]
          · rw [if_neg (by omega), if_neg (by omega)]
        rw [e2]
        exact (this.extBut hs2.extBut ne').extBut hs3.extBut (D.iz i' im').2.2
    · show h3.objs.size = _
      rw [hs3.1, hs2.1, hsz]
  · rintro b s' ⟨rfl, h', vs, rfl, hz', hTO', hv, hrow, hI, hsz, hk⟩
    have llen := D.ln
    have xlen := hl.1
    have rlen := hr.1
    have ev : vs = row.toArray := by
      refine Array.ext_getElem? fun q => ?_
      by_cases z : q < its.length
      · rw [hrow q (by rw [List.length_zipIdx, List.length_map]; omega)]; simp
      · rw [Array.getElem?_eq_none (by omega)]; simp; omega
    rw [List.length_zipIdx, List.length_map, Nat.zero_add] at hI
    subst ev
    show wpAny _ _ (seqItems? (.ref TO) >>= _) _ _ _
    refine wpAny_bind (wpAny_seqItems hTO' rfl ?_)
    refine wpAny_bind (wpAny_newTuple ?_)
    have hzlt : z < h'.objs.size := Heap.lt_size hz'
    show wpAny _ _ (Builtin.SmallTypes.ownedTupleHandOut (.ref z) (.ref h'.objs.size) >>= _) _ _ _
    refine wpAny_bind ?_
    unfold Builtin.SmallTypes.ownedTupleHandOut
    have hz₆ : IsZ (h'.push { cls := .type "tuple", data := .seq row.toArray.toList.toArray }) z TI TO .ellipsis (.bool f) := Heap.get?_push_of_some _ hz'
    refine wpAny_bind (wpAny_setField_rec hz₆ (by simp) fun h₇ hz₇ hs₇ => ?_)
    replace hz₇ : IsZ h₇ z TI TO (rawInt h'.objs.size) (.bool f) := hz₇
    refine wpAny_setField_rec hz₇ (by simp) fun h₈ hz₈ hs₈ => ?_
    replace hz₈ : IsZ h₈ z TI TO (rawInt h'.objs.size) (.bool false) := hz₈
    have up : ∀ c o, c ≠ z → h'.get? c = some o → h₈.get? c = some o := fun c o c1 e => hs₈.extBut _ _ c1 (hs₇.extBut _ _ c1 (Heap.get?_push_of_some _ e))
    have hT₈ : IsT h₈ h'.objs.size row.toArray := hs₈.extBut _ _ (Nat.ne_of_gt hzlt) (hs₇.extBut _ _ (Nat.ne_of_gt hzlt) (Heap.get?_push_size _ rfl))
    have hz8 : h₈.objs.size = h'.objs.size + 1 := by rw [hs₈.1, hs₇.1, Heap.size_push]
    rw [hsz] at hz₈ hT₈ hz8
    refine wpAny_pure ⟨_, rfl, ?_⟩
    show Q (.ref h'.objs.size) _
    rw [hsz]
    exact hQ h₈ hz₈ (up _ _ D.TOz hTO') (fun q i l a b => (hI q i l a b).at fun o e => up _ o (D.iz i (List.mem_of_getElem? a)).1 e) hT₈ hz8 fun c o c1 c2 c3 e => up c o c1 (hk c o c1 c2 c3 e)
theorem next_held {z TI TO T : Addr} {f : Bool} {oT : Obj} {its ls : List Addr} {xss : List (Array Value)} {row : List Value} {k : Nat} {Q : Value → Shared → Prop} (D : Ap z TI TO its ls) (ne : its ≠ [])
    (hz : IsZ s.heap z TI TO (rawInt T) (.bool f)) (hT : s.heap.get? T = some oT) (hTI : IsT s.heap TI (its.map Value.ref).toArray) (hle : its.length ≤ 1000)
    (hi : Its s.heap its ls k 0) (hl : Ls s.heap ls xss) (hr : Row xss k row)
    (hQ : ∀ h', IsZ h' z TI TO (rawInt T) (.bool true) → Its h' its ls k its.length → IsT h' s.heap.objs.size row.toArray → h'.objs.size = s.heap.objs.size + 1 →
      (∀ c o, c ≠ z → c ∉ its → s.heap.get? c = some o → h'.get? c = some o) → Q (.ref s.heap.objs.size) { s with heap := h' }) :
    wpAny (model prog w) A (Builtin.«zip.__next__» ⟨[.ref z], []⟩) (fun fin s' => ∃ v, fin = .done (.ret v) ∧ Q v s') E s := by
  show wpAny _ _ (field (.ref z) 2 >>= _) _ _ _
  refine wpAny_bind (wpAny_field hz rfl (x := .bool false) rfl ?_)
  show wpAny _ _ (field (.ref z) 3 >>= _) _ _ _
  refine wpAny_bind (wpAny_field hz rfl (x := .ref TI) rfl ?_)
  refine wpAny_bind (wpAny_seqItems hTI rfl ?_)
  have e0 : ((its.map Value.ref).toArray).isEmpty = false := by cases its with | nil => exact absurd rfl ne | cons a r => rfl
  simp only [e0, Bool.false_eq_true, if_false]
  refine wpAny_bind (PySem.wpAny_tupleHeld_zip hz hT fun h₁ hz₁ hs₁ => ?_)
  simp only [Bool.false_eq_true, if_false]
  refine wpAny_bind ?_
  rw [← Array.forIn_toList]
  refine forIn_wp (fun j b s' => b = (none, (row.take j).toArray) ∧ ∃ h', s' = { s with heap := h' } ∧ IsZ h' z TI TO (rawInt T) (.bool true) ∧ Its h' its ls k j ∧ h'.objs.size = s.heap.objs.size ∧
      (∀ c o, c ≠ z → c ∉ its → s.heap.get? c = some o → h'.get? c = some o)) _ 0 _ _ ⟨rfl, h₁, rfl, hz₁, fun n i l hi1 hl1 => (hi n i l hi1 hl1).extBut hs₁.extBut (D.iz i (List.mem_of_getElem? hi1)).1, hs₁.1, fun c o c1 _ e => hs₁.extBut _ _ c1 e⟩ ?_ ?_
  · rintro j x hx b s' ⟨rfl, h', rfl, hz', hI, hsz, hk⟩
    obtain ⟨i, hi1, rfl⟩ : ∃ i, its[j]? = some i ∧ x = .ref i := by
      have hx2 : (its.map Value.ref)[j]? = some x := hx
      rw [List.getElem?_map] at hx2
      cases hq : its[j]? with
      | none => rw [hq] at hx2; cases hx2
      | some i => rw [hq] at hx2; exact ⟨i, rfl, (Option.some.inj hx2).symm⟩
    have jl : j < its.length := (List.getElem?_eq_some_iff.mp hi1).1
    have llen := D.ln
    have xlen := hl.1
    have rlen := hr.1
    obtain ⟨l, hl1⟩ : ∃ l, ls[j]? = some l := ⟨_, List.getElem?_eq_getElem (by omega)⟩
    obtain ⟨xs, hx1⟩ : ∃ xs, xss[j]? = some xs := ⟨_, List.getElem?_eq_getElem (by omega)⟩
    obtain ⟨v, hv1⟩ : ∃ v, row[j]? = some v := ⟨_, List.getElem?_eq_getElem (by omega)⟩
    have hxk : xs[k]? = some v := (hr.2 j xs hx1).trans hv1
    have im := List.mem_of_getElem? hi1
    have lm := D.lz l (List.mem_of_getElem? hl1)
    have hlist : h'.IsList l xs := by
      obtain ⟨o, ho, r⟩ := hl.2 j l xs hl1 hx1
      exact ⟨o, hk l o lm.1 (fun h => lm.2.2 l h rfl) ho, r⟩
    have hit : h'.IsListIter i l k := by
      have := hI j i l hi1 hl1
      rw [if_neg (by omega)] at this
      exact this
    refine wpAny_bind (wpAny_holding ?_)
    show wpAny _ _ (Builtin.SmallTypes.nextOf (.ref i) >>= _) _ _ _
    refine wpAny_bind (wpAny_nextOf_list_item (s := { s with heap := h' }) hit hlist hxk fun h2 it2 hs2 => wpAny_pure ?_)
    refine wpAny_pure ⟨_, rfl, ?_, h2, rfl, hs2.extBut _ _ (D.iz i im).1.symm hz', fun q i' l' hi' hl' => ?_, ?_, fun c o c1 c3 e => hs2.extBut _ _ (fun z => c3 (z ▸ im)) (hk c o c1 c3 e)⟩
    · show (none, (row.take (0 + j)).toArray.push v) = _
      rw [Nat.zero_add, List.push_toArray]
      congr 2
      rw [List.take_succ, hv1]
      rfl
    · by_cases e : q = j
      · subst e
        rw [hi1] at hi'
        rw [hl1] at hl'
        cases hi'
        cases hl'
        rw [if_pos (by omega)]
        exact it2
      · have ne' : i' ≠ i := fun z => by
          subst z
          have q1 := (List.getElem?_eq_some_iff.mp hi').1
          have := (List.getElem?_inj q1 D.nd).mp (hi'.trans hi1.symm)
          exact e this
        have := hI q i' l' hi' hl'
        have e2 : (if q < 0 + j + 1 then k + 1 else k) = if q < 0 + j then k + 1 else k := by
          by_cases z : q < j
          · rw [if_pos (by omega), if_pos (by omega)]
          · rw [if_neg (by omega), if_neg (by omega)]
        rw [e2]
        exact this.extBut hs2.extBut ne'
    · show h2.objs.size = _
      rw [hs2.1, hsz]
  · rintro b s' ⟨rfl, h', rfl, hz', hI, hsz, hk⟩
    have llen := D.ln
    have xlen := hl.1
    have rlen := hr.1
    have lm : (List.map Value.ref its).toArray.toList.length = its.length := by simp
    rw [lm, Nat.zero_add] at hI
    have tk : (row.take (0 + (List.map Value.ref its).toArray.toList.length)).toArray.toList = row := by
      rw [lm, Nat.zero_add]
      exact List.take_of_length_le (by omega)
    show wpAny _ _ (newTuple ((row.take (0 + (List.map Value.ref its).toArray.toList.length)).toArray.toList) >>= _) _ _ _
    rw [tk]
    refine wpAny_bind (wpAny_newTuple ?_)
    refine wpAny_pure ⟨_, rfl, ?_⟩
    show Q (.ref h'.objs.size) _
    have hp : IsT (h'.push { cls := .type "tuple", data := .seq row.toArray }) h'.objs.size row.toArray := Heap.get?_push_size _ rfl
    have hz4 : (h'.push { cls := .type "tuple", data := .seq row.toArray }).objs.size = h'.objs.size + 1 := Heap.size_push ..
    rw [hsz] at hp hz4 ⊢
    exact hQ _ (Heap.get?_push_of_some _ hz') (fun q i l a b => (hI q i l a b).at fun o e => Heap.get?_push_of_some _ e) hp hz4 fun c o c1 c3 e => Heap.get?_push_of_some _ (hk c o c1 c3 e)
/-- the end: the first list has no more items -/
theorem next_end {z TI TO i l : Addr} {v0 : Value} {f : Bool} {its ls : List Addr} {xs : Array Value} {k : Nat} {Q : Fin → Shared → Prop} (hh : A.handled = none) (D : Ap z TI TO (i :: its) (l :: ls))
    (hz : IsZ s.heap z TI TO v0 (.bool f)) (hv : Fr0 s.heap v0 ∨ ∃ (T : Nat) (oT : Obj), v0 = rawInt (T : Int) ∧ s.heap.get? T = some oT) (hTI : IsT s.heap TI ((i :: its).map Value.ref).toArray) {old : Array Value} (hTO : IsT s.heap TO old)
    (hi : s.heap.IsListIter i l k) (hl : s.heap.IsList l xs) (hx : xs[k]? = none)
    (hE : ∀ h' e, (∀ c o, c ≠ z → c ∉ i :: its → s.heap.get? c = some o → h'.get? c = some o) → (∃ o, h'.get? e = some o ∧ o.cls = .type "StopIteration") → E (.ref e) { s with heap := h' }) :
    wpAny (model prog w) A (Builtin.«zip.__next__» ⟨[.ref z], []⟩) Q E s := by
  have D0 := D.iz i List.mem_cons_self
  have L0 := D.lz l List.mem_cons_self
  show wpAny _ _ (field (.ref z) 2 >>= _) _ _ _
  refine wpAny_bind (wpAny_field hz rfl (x := .bool false) rfl ?_)
  show wpAny _ _ (field (.ref z) 3 >>= _) _ _ _
  refine wpAny_bind (wpAny_field hz rfl (x := .ref TI) rfl ?_)
  refine wpAny_bind (wpAny_seqItems hTI rfl ?_)
  have e0 : (((i :: its).map Value.ref).toArray).isEmpty = false := rfl
  simp only [e0, Bool.false_eq_true, if_false]
  rcases hv with hf | ⟨T, oT, rfl, hT⟩
  · refine wpAny_bind (free_step hf hz ?_)
    simp only [if_true]
    refine wpAny_bind (wpAny_rule ?_)
    refine wpAny_bind (wpAny_field hz rfl (x := .ref TO) rfl ?_)
    refine wpAny_bind (wpAny_setField_rec hz (by simp) fun h₁ hz₁ hs₁ => ?_)
    replace hz₁ : IsZ h₁ z TI TO .ellipsis (.bool f) := hz₁
    refine wpAny_bind ?_
    simp only [List.map_cons, List.zipIdx_cons, List.forIn_cons]
    refine wpAny_bind (wpAny_bind (wpAny_onRaise ?_))
    show wpAny _ _ (Builtin.SmallTypes.nextOf (.ref i) >>= _) _ _ _
    refine wpAny_bind (wpAny_nextOf_list_end (s := { s with heap := h₁ }) hh (hi.extBut hs₁.extBut D0.1) (hl.extBut hs₁.extBut L0.1) hx fun h₂ e hs₂ he => ?_)
    obtain ⟨oe, hoe, hce⟩ := he
    have hz₂ : IsZ h₂ z TI TO .ellipsis (.bool f) := hs₂ _ _ D0.1.symm hz₁
    have hez : e ≠ z := fun x => by subst x; rw [hz₂] at hoe; cases hoe; simp at hce
    refine wpAny_setField_rec hz₂ (by simp) fun h₃ _ hs₃ => hE h₃ e (fun c o c1 c3 x => hs₃.extBut _ _ c1 (hs₂ _ _ (fun z => c3 (z ▸ List.mem_cons_self)) (hs₁.extBut _ _ c1 x))) ⟨oe, hs₃.extBut _ _ hez hoe, hce⟩
  · refine wpAny_bind (PySem.wpAny_tupleHeld_zip hz hT fun h₁ hz₁ hs₁ => ?_)
    simp only [Bool.false_eq_true, if_false]
    refine wpAny_bind ?_
    rw [← Array.forIn_toList]
    simp only [List.map_cons, List.forIn_cons]
    refine wpAny_bind (wpAny_bind (wpAny_holding ?_))
    show wpAny _ _ (Builtin.SmallTypes.nextOf (.ref i) >>= _) _ _ _
    refine wpAny_bind (wpAny_nextOf_list_end (s := { s with heap := h₁ }) hh (hi.extBut hs₁.extBut D0.1) (hl.extBut hs₁.extBut L0.1) hx fun h₂ e hs₂ he => ?_)
    exact hE h₂ e (fun c o c1 c2 x => hs₂ _ _ (fun z => c2 (z ▸ List.mem_cons_self)) (hs₁.extBut _ _ c1 x)) he
end
theorem typeCall_zip (l : List Value) : checkTypeCall "zip" ⟨l, []⟩ = pure () := by kernel_rfl
theorem newCall_zip : ∀ (l : List Value), l ≠ [] ∧ l.length ≤ 20 → checkBuiltinCall "zip.__new__" ⟨.type "zip" :: l, []⟩ = pure ()
  | [], h => absurd rfl h.1
  | [a0], _ => by kernel_rfl
  | [a0, a1], _ => by kernel_rfl
  | [a0, a1, a2], _ => by kernel_rfl
  | [a0, a1, a2, a3], _ => by kernel_rfl
  | [a0, a1, a2, a3, a4], _ => by kernel_rfl
  | [a0, a1, a2, a3, a4, a5], _ => by kernel_rfl
  | [a0, a1, a2, a3, a4, a5, a6], _ => by kernel_rfl
  | [a0, a1, a2, a3, a4, a5, a6, a7], _ => by kernel_rfl
  | [a0, a1, a2, a3, a4, a5, a6, a7, a8], _ => by kernel_rfl
  | [a0, a1, a2, a3, a4, a5, a6, a7, a8, a9], _ => by kernel_rfl
  | [a0, a1, a2, a3, a4, a5, a6, a7, a8, a9, a10], _ => by kernel_rfl
  | [a0, a1, a2, a3, a4, a5, a6, a7, a8, a9, a10, a11], _ => by kernel_rfl
  | [a0, a1, a2, a3, a4, a5, a6, a7, a8, a9, a10, a11, a12], _ => by kernel_rfl
  | [a0, a1, a2, a3, a4, a5, a6, a7, a8, a9, a10, a11, a12, a13], _ => by kernel_rfl
  | [a0, a1, a2, a3, a4, a5, a6, a7, a8, a9, a10, a11, a12, a13, a14], _ => by kernel_rfl
  | [a0, a1, a2, a3, a4, a5, a6, a7, a8, a9, a10, a11, a12, a13, a14, a15], _ => by kernel_rfl
  | [a0, a1, a2, a3, a4, a5, a6, a7, a8, a9, a10, a11, a12, a13, a14, a15, a16], _ => by kernel_rfl
  | [a0, a1, a2, a3, a4, a5, a6, a7, a8, a9, a10, a11, a12, a13, a14, a15, a16, a17], _ => by kernel_rfl
  | [a0, a1, a2, a3, a4, a5, a6, a7, a8, a9, a10, a11, a12, a13, a14, a15, a16, a17, a18], _ => by kernel_rfl
  | [a0, a1, a2, a3, a4, a5, a6, a7, a8, a9, a10, a11, a12, a13, a14, a15, a16, a17, a18, a19], _ => by kernel_rfl
  | _ :: _ :: _ :: _ :: _ :: _ :: _ :: _ :: _ :: _ :: _ :: _ :: _ :: _ :: _ :: _ :: _ :: _ :: _ :: _ :: _ :: _, h => absurd h.2 (by simp only [List.length_cons]; omega)
theorem args_init (obj : Value) (l : List Value) : argsOk "object.__init__" ⟨obj :: l, []⟩ := by
  unfold argsOk; rw [signature?_of (id := "object.__init__") (n := ['_', '_', 't', 'i', 'n', 'i', '_', '_']) (o := ['t', 'c', 'e', 'j', 'b', 'o']) (by kernel_rfl) F.owner_object]; kernel_rfl
section
variable {prog : Program} {w : World} {A : Around} {E : Value → Shared → Prop} {s : Shared}
/-- the next turn, whether a tuple is out or not -/
def Zst (z TI TO : Addr) (its ls : List Addr) (k : Nat) (h : Heap) : Prop :=
  (∃ v0 f, IsZ h z TI TO v0 (.bool f) ∧ (v0 = .none ∨ ∃ T : Nat, v0 = rawInt (T : Int))) ∧ IsT h TI (its.map Value.ref).toArray ∧ (∃ old, IsT h TO old ∧ old.size = its.length) ∧ Its h its ls k 0
theorem Its.next {h : Heap} {its ls : List Addr} {k : Nat} (x : Its h its ls k its.length) : Its h its ls (k + 1) 0 := fun n i l a b => by
  have := x n i l a b
  rw [if_pos (List.getElem?_eq_some_iff.mp a).1] at this
  rw [if_neg (Nat.not_lt_zero _)]
  exact this
theorem py_item {z TI TO : Addr} {its ls : List Addr} {xss : List (Array Value)} {row : List Value} {k : Nat} {Q : Option Value → Shared → Prop} (D : Ap z TI TO its ls) (ne : its ≠ []) (hle : its.length ≤ 1000)
    (st : Zst z TI TO its ls k s.heap) (hl : Ls s.heap ls xss) (hr : Row xss k row)
    (hQ : ∀ h', Zst z TI TO its ls (k + 1) h' → IsT h' s.heap.objs.size row.toArray → h'.objs.size = s.heap.objs.size + 1 →
      (∀ c o, c ≠ z → c ≠ TO → c ∉ its → s.heap.get? c = some o → h'.get? c = some o) → Q (some (.ref s.heap.objs.size)) { s with heap := h' }) :
    wpAny (model prog w) A (pyNext (.ref z)) Q E s := by
  obtain ⟨⟨v0, f, hz, hv⟩, hTI, ⟨old, hTO, ho⟩, hi⟩ := st
  have hTy : s.TypeIs (.ref z) "zip" := ⟨_, hz, rfl⟩
  have TIi : TI ∉ its := fun h => (D.iz TI h).2.1 rfl
  have TOi : TO ∉ its := fun h => (D.iz TO h).2.2 rfl
  have rsz : row.toArray.size = its.length := by have := hr.1; have := hl.1; have := D.ln; simp; omega
  unfold pyNext
  have fin : ∀ {v0 : Value}, Fr0 s.heap v0 ∨ (∃ (T : Nat) (oT : Obj), v0 = rawInt (T : Int) ∧ s.heap.get? T = some oT) → IsZ s.heap z TI TO v0 (.bool f) → wpAny (model prog w) A (do match ← (callSpecial? (.ref z) "__next__" []).attempt with
    | .ok (some v) => pure (some v)
    | .ok none => unsupported "iter:the-iterator's-class-has-lost-its-__next__-amid-the-walk"
    | .error e => do if ← isInstance e (.type "StopIteration") then pure none else throw e) Q E s := by
    intro v0 hv hz
    rcases hv with hf | ⟨T, oT, rfl, hT⟩
    · exact wpAny_bind (wpAny_attempt (wpAny_callSpecial?_slot (name := Str.ofString "__next__") hTy F.slot_zip_next
        (wpAny_call_entry F.slot_zip_next hTy F.entry_zip_next
          (next_free D ne hf hz hTI hTO ho hle hi hl hr fun h' a1 a2 a3 a4 a5 a6 => wpAny_pure (hQ h' ⟨⟨_, _, a1, .inr ⟨_, rfl⟩⟩, a6 _ _ D.TIz D.TIO TIi hTI, ⟨_, a2, rsz⟩, a3.next⟩ a4 a5 a6)) (F.args_zip_next_1 _))))
    · exact wpAny_bind (wpAny_attempt (wpAny_callSpecial?_slot (name := Str.ofString "__next__") hTy F.slot_zip_next
        (wpAny_call_entry F.slot_zip_next hTy F.entry_zip_next
          (next_held D ne hz hT hTI hle hi hl hr fun h' a1 a3 a4 a5 a6 => wpAny_pure (hQ h' ⟨⟨_, _, a1, .inr ⟨_, rfl⟩⟩, a6 _ _ D.TIz TIi hTI, ⟨_, a6 _ _ D.TOz TOi hTO, ho⟩, a3.next⟩ a4 a5 fun c o c1 c2 c3 e => a6 c o c1 c3 e)) (F.args_zip_next_1 _))))
  rcases hv with rfl | ⟨T, rfl⟩
  · exact fin (.inl (.inl rfl)) hz
  · cases hT : s.heap.get? T with
    | none => exact fin (.inl (.inr ⟨T, rfl, hT⟩)) hz
    | some oT => exact fin (.inr ⟨T, oT, rfl, hT⟩) hz
theorem py_end {z TI TO i l : Addr} {its ls : List Addr} {xs : Array Value} {k : Nat} {Q : Option Value → Shared → Prop} (hh : A.handled = none) (D : Ap z TI TO (i :: its) (l :: ls))
    (st : Zst z TI TO (i :: its) (l :: ls) k s.heap) (hl : s.heap.IsList l xs) (hx : xs[k]? = none)
    (hQ : ∀ h', (∀ c o, c ≠ z → c ∉ i :: its → s.heap.get? c = some o → h'.get? c = some o) → Q none { s with heap := h' }) :
    wpAny (model prog w) A (pyNext (.ref z)) Q E s := by
  obtain ⟨⟨v0, f, hz, hv⟩, hTI, ⟨old, hTO, ho⟩, hi⟩ := st
  have hTy : s.TypeIs (.ref z) "zip" := ⟨_, hz, rfl⟩
  have hi0 : s.heap.IsListIter i l k := by
    have := hi 0 i l rfl rfl
    rw [if_neg (Nat.lt_irrefl _)] at this
    exact this
  have hv2 : Fr0 s.heap v0 ∨ (∃ (T : Nat) (oT : Obj), v0 = rawInt (T : Int) ∧ s.heap.get? T = some oT) := by
    rcases hv with rfl | ⟨T, rfl⟩
    · exact .inl (.inl rfl)
    · cases hT : s.heap.get? T with
      | none => exact .inl (.inr ⟨T, rfl, hT⟩)
      | some oT => exact .inr ⟨T, oT, rfl, hT⟩
  unfold pyNext
  refine wpAny_bind (wpAny_attempt (wpAny_callSpecial?_slot (name := Str.ofString "__next__") hTy F.slot_zip_next
    (wpAny_call_entry F.slot_zip_next hTy F.entry_zip_next (next_end hh D hz hv2 hTI hTO hi0 hl hx fun h' e hk he => ?_) (F.args_zip_next_1 _))))
  obtain ⟨o, ho, hc⟩ := he
  refine wpAny_bind (wpAny_isInstance (T := "StopIteration") (b := true) ⟨o, ho, hc⟩ isSubtype_stop ?_)
  exact wpAny_pure (hQ _ hk)
end
/-! ### the zip is made -/
section
variable {prog : Program} {w : World} {A : Around} {E : Value → Shared → Prop} {s : Shared}
theorem iterAll_lists {ls : List Addr} {xss : List (Array Value)} {Q : List Value → Shared → Prop} (hl : Ls s.heap ls xss)
    (hQ : ∀ h', Its h' ((List.range ls.length).map fun i => s.heap.objs.size + i) ls 0 0 → h'.objs.size = s.heap.objs.size + ls.length → (∀ c o, s.heap.get? c = some o → h'.get? c = some o) →
      Q (((List.range ls.length).map fun i => s.heap.objs.size + i).map Value.ref) { s with heap := h' }) :
    wpAny (model prog w) A (Builtin.SmallTypes.iterAll (ls.map Value.ref)) Q E s := by
  unfold Builtin.SmallTypes.iterAll
  refine wpAny_bind ?_
  refine forIn_wp (fun j b s' => b = (((List.range j).map fun i => s.heap.objs.size + i).map Value.ref).toArray ∧ ∃ h', s' = { s with heap := h' } ∧ h'.objs.size = s.heap.objs.size + j ∧ (∀ c o, s.heap.get? c = some o → h'.get? c = some o) ∧
      ∀ (n : Nat) (l : Addr), n < j → ls[n]? = some l → h'.IsListIter (s.heap.objs.size + n) l 0) _ 0 _ _ ⟨rfl, s.heap, rfl, rfl, fun _ _ e => e, fun n l h => absurd h (Nat.not_lt_zero _)⟩ ?_ ?_
  · rintro j x hx b s' ⟨rfl, h', rfl, hsz, hk, hi⟩
    obtain ⟨l, hl1, rfl⟩ : ∃ l, ls[j]? = some l ∧ x = .ref l := by
      rw [List.getElem?_map] at hx
      cases hq : ls[j]? with
      | none => rw [hq] at hx; cases hx
      | some i => rw [hq] at hx; exact ⟨i, rfl, (Option.some.inj hx).symm⟩
    have jl : j < ls.length := (List.getElem?_eq_some_iff.mp hl1).1
    have xlen := hl.1
    obtain ⟨xs, hx1⟩ : ∃ xs, xss[j]? = some xs := ⟨_, List.getElem?_eq_getElem (by omega)⟩
    have hlist : h'.IsList l xs := by
      obtain ⟨o, ho, r⟩ := hl.2 j l xs hl1 hx1
      exact ⟨o, hk l o ho, r⟩
    refine wpAny_bind (wpAny_holding ?_)
    refine wpAny_pyIter_list (s := { s with heap := h' }) hlist ?_
    refine wpAny_pure ⟨_, rfl, ?_, _, rfl, ?_, fun c o e => Heap.get?_push_of_some _ (hk c o e), fun n l' hn hl' => ?_⟩
    · show ((((List.range (0 + j)).map fun i => s.heap.objs.size + i).map Value.ref).toArray).push (.ref h'.objs.size) = _
      rw [Nat.zero_add, List.range_succ, List.map_append, List.map_append, List.push_toArray, hsz, Nat.zero_add]
      rfl
    · rw [Heap.size_push, hsz]; omega
    · by_cases z : n < 0 + j
      · exact (hi n l' z hl').at fun o e => Heap.get?_push_of_some _ e
      · have en : n = j := by omega
        subst en
        rw [hl1] at hl'
        cases hl'
        have e1 : s.heap.objs.size + n = h'.objs.size := by rw [hsz]; omega
        rw [e1]
        exact ⟨_, Heap.get?_push_size _ rfl, rfl, rfl⟩
  · rintro b s' ⟨rfl, h', rfl, hsz, hk, hi⟩
    rw [List.length_map, Nat.zero_add] at hsz hi
    rw [List.length_map, Nat.zero_add]
    refine wpAny_pure ?_
    refine hQ h' (fun n i l hn hl' => ?_) hsz hk
    have nl : n < ls.length := (List.getElem?_eq_some_iff.mp hl').1
    have ei : i = s.heap.objs.size + n := by
      rw [List.getElem?_map, List.getElem?_range nl] at hn
      exact (Option.some.inj hn).symm
    subst ei
    rw [if_neg (Nat.not_lt_zero _)]
    exact hi n l nl hl'
end
theorem meets_zip (ls : List Addr) (xss : List (Array Value)) (ne : ls ≠ []) (hle : ls.length ≤ 20) :
    Meets (Builtin.«zip.__new__» ⟨.type "zip" :: ls.map Value.ref, []⟩) (fun _ R s => Ls s.heap ls xss ∧
      ∀ h', IsZ h' (s.heap.objs.size + ls.length + 2) (s.heap.objs.size + ls.length) (s.heap.objs.size + ls.length + 1) .none (.bool false) → IsT h' (s.heap.objs.size + ls.length) (((List.range ls.length).map fun i => s.heap.objs.size + i).map Value.ref).toArray →
        IsT h' (s.heap.objs.size + ls.length + 1) (List.replicate ls.length Value.none).toArray → Its h' ((List.range ls.length).map fun i => s.heap.objs.size + i) ls 0 0 → h'.objs.size = s.heap.objs.size + ls.length + 3 → (∀ c o, s.heap.get? c = some o → h'.get? c = some o) →
      R (.ok (.ret (.ref (s.heap.objs.size + ls.length + 2)))) { s with heap := h' }) :=
  .of_wp fun prog w A R s h => by
    obtain ⟨hl, h⟩ := h
    have hsub := sub_zip
    have len : (((List.range ls.length).map fun i => s.heap.objs.size + i).map Value.ref).length ≤ sizeLine := by rw [sizeLine_eq]; simp; omega
    have len2 : ((((List.range ls.length).map fun i => s.heap.objs.size + i).map Value.ref).map fun _ => Value.none).length ≤ sizeLine := by rw [sizeLine_eq]; simp; omega
    unfold Builtin.«zip.__new__»
    refine wpAny_bind ?_
    have hcls : ∀ {Q : Value × List Value → Shared → Prop} {E}, Q (.type "zip", ls.map Value.ref) s → wpAny (model prog w) A.in1 (Builtin.SmallTypes.newClass "zip" ⟨.type "zip" :: ls.map Value.ref, []⟩) Q E s := fun {Q E} hq => by
      unfold Builtin.SmallTypes.newClass
      wp_walk
      exact hq
    refine hcls ?_
    show wpAny _ _ (Builtin.SmallTypes.iterAll (ls.map Value.ref) >>= _) _ _ _
    refine wpAny_bind (iterAll_lists hl fun h' hi hsz hk => ?_)
    refine wpAny_bind (wpAny_newTuple ?_ len)
    refine wpAny_bind (wpAny_newTuple ?_ len2)
    have en : ((((List.range ls.length).map fun i => s.heap.objs.size + i).map Value.ref).map fun _ => Value.none) = List.replicate ls.length Value.none := by
      rw [List.map_map, List.map_map]
      exact List.eq_replicate_iff.mpr ⟨by simp, fun b hb => by obtain ⟨_, _, rfl⟩ := List.mem_map.mp hb; rfl⟩
    rw [en]
    refine wpAny_bind ?_
    unfold Builtin.SmallTypes.newRecord
    refine wpAny_newObj_type ?_ (by show (5 : Nat) ≤ sizeLine + 2; decide)
    refine wpAny_pure ⟨_, rfl, ?_⟩
    let T1 : Obj := { cls := .type "tuple", data := .seq (((List.range ls.length).map fun i => s.heap.objs.size + i).map Value.ref).toArray }
    let T2 : Obj := { cls := .type "tuple", data := .seq (List.replicate ls.length Value.none).toArray }
    have z1 : (h'.push T1).objs.size = s.heap.objs.size + ls.length + 1 := by rw [Heap.size_push, hsz]
    have z2 : ((h'.push T1).push T2).objs.size = s.heap.objs.size + ls.length + 2 := by rw [Heap.size_push, z1]
    show R (.ok (.ret (.ref ((h'.push T1).push T2).objs.size))) { s with heap := ((h'.push T1).push T2).push { cls := .type "zip", data := .fields #[.none, .bool false, .bool false, .ref h'.objs.size, .ref (h'.push T1).objs.size] } }
    rw [z2, hsz, z1]
    refine h _ ?_ ?_ ?_ (fun n i l a b => (hi n i l a b).at fun o e => Heap.get?_push_of_some _ (Heap.get?_push_of_some _ (Heap.get?_push_of_some _ e))) (by rw [Heap.size_push, z2]) fun c o e => Heap.get?_push_of_some _ (Heap.get?_push_of_some _ (Heap.get?_push_of_some _ (hk c o e)))
    · have := Heap.get?_push_size ((h'.push T1).push T2) (o := { cls := .type "zip", data := .fields #[.none, .bool false, .bool false, .ref (s.heap.objs.size + ls.length), .ref (s.heap.objs.size + ls.length + 1)] }) rfl
      rw [z2] at this
      exact this
    · have := Heap.get?_push_size h' (o := T1) rfl
      rw [hsz] at this
      exact Heap.get?_push_of_some _ (Heap.get?_push_of_some _ this)
    · have := Heap.get?_push_size (h'.push T1) (o := T2) rfl
      rw [z1] at this
      exact Heap.get?_push_of_some _ this
section
variable {prog : Program} {w : World} {A : Around} {E : Value → Shared → Prop} {s : Shared}
theorem call_zipN {ls : List Addr} {xss : List (Array Value)} {Q : Value → Shared → Prop} (ne : ls ≠ []) (hle : ls.length ≤ 20) (hl : Ls s.heap ls xss)
    (h : ∀ h', Zst (s.heap.objs.size + ls.length + 2) (s.heap.objs.size + ls.length) (s.heap.objs.size + ls.length + 1) ((List.range ls.length).map fun i => s.heap.objs.size + i) ls 0 h' → h'.objs.size = s.heap.objs.size + ls.length + 3 →
      (∀ c o, s.heap.get? c = some o → h'.get? c = some o) → Q (.ref (s.heap.objs.size + ls.length + 2)) { s with heap := h' }) :
    wpAny (model prog w) A (call (.type "zip") (ls.map Value.ref)) Q E s := by
  refine callType_new F.called_zip (by decide) (typeCall_zip _) (newCall_zip _ ⟨by simpa using ne, by simpa using hle⟩) (fun obj => args_init obj _) F.entry_zip_new
    (meets_zip ls xss ne hle) ⟨hl, fun h' hz h1 h2 h3 h4 h5 => ?_⟩
  exact ⟨⟨_, hz, rfl⟩, h h' ⟨⟨_, _, hz, .inl rfl⟩, h1, ⟨_, h2, by simp⟩, h3⟩ h4 h5⟩
end
theorem ap_new {n : Nat} {ls : List Addr} (h : ∀ l ∈ ls, l < n) : Ap (n + ls.length + 2) (n + ls.length) (n + ls.length + 1) ((List.range ls.length).map fun i => n + i) ls where
  TIz := fun e => by have e' : n + ls.length = n + ls.length + 2 := e; omega
  TOz := fun e => by have e' : n + ls.length + 1 = n + ls.length + 2 := e; omega
  TIO := fun e => by have e' : n + ls.length = n + ls.length + 1 := e; omega
  iz := fun i hi => by
    obtain ⟨j, hj, rfl⟩ := List.mem_map.mp hi
    have := List.mem_range.mp hj
    refine ⟨fun e => ?_, fun e => ?_, fun e => ?_⟩
    · have e' : n + j = n + ls.length + 2 := e; omega
    · have e' : n + j = n + ls.length := e; omega
    · have e' : n + j = n + ls.length + 1 := e; omega
  nd := List.pairwise_map.mpr ((List.nodup_range (n := ls.length)).imp fun {a b} hab e => hab (by have e' : n + a = n + b := e; omega))
  lz := fun l hl => by
    have hl2 : (show Nat from l) < n := h l hl
    refine ⟨fun e => ?_, fun e => ?_, fun i hi e => ?_⟩
    · have e' : (show Nat from l) = n + ls.length + 2 := e; omega
    · have e' : (show Nat from l) = n + ls.length + 1 := e; omega
    · obtain ⟨j, hj, rfl⟩ := List.mem_map.mp hi
      have e' : (show Nat from l) = n + j := e
      omega
  ln := by simp
/-! ### the turns -/
/-- lists that are known, side by side -/
def SqLs (K : PySem.W.Frag) (H : Hp) (as : List Addr) (xss : List (List V)) : Prop := xss.length = as.length ∧ ∀ (n : Nat) (a : Addr) (xs : List V), as[n]? = some a → xss[n]? = some xs → SqL K H a xs
/-- a row of items -/
def RowV (xss : List (List V)) (i : Nat) (row : List V) : Prop := row.length = xss.length ∧ ∀ (n : Nat) (xs : List V), xss[n]? = some xs → xs[i]? = row[n]?
def ItzN (K : PySem.W.Frag) (as : List Addr) : It :=
  ⟨fun i H => ∃ xss row, SqLs K H as xss ∧ RowV xss i row,
    fun i H v H' => ∃ T row, v = .ref T ∧ H T = none ∧ H' = upd H T (.tup row) ∧ ∀ xss, SqLs K H as xss → RowV xss i row,
    fun i H => ∃ a r xs, as = a :: r ∧ SqL K H a xs ∧ xs.length ≤ i⟩
theorem pick {α β : Type} {R : Nat → α → β → Prop} : ∀ (l : List α), (∀ n a, l[n]? = some a → ∃ b, R n a b) → ∃ bs : List β, bs.length = l.length ∧ ∀ n a b, l[n]? = some a → bs[n]? = some b → R n a b
  | [], _ => ⟨[], rfl, fun n a b h => by simp at h⟩
  | a :: l, h => by
    obtain ⟨b, hb⟩ := h 0 a rfl
    obtain ⟨bs, e, hbs⟩ := pick (R := fun n => R (n + 1)) l fun n a hn => h (n + 1) a (by rw [List.getElem?_cons_succ]; exact hn)
    refine ⟨b :: bs, by rw [List.length_cons, List.length_cons, e], fun n x y hx hy => ?_⟩
    cases n with
    | zero =>
      cases hx
      cases hy
      exact hb
    | succ n => exact hbs n x y (by rw [List.getElem?_cons_succ] at hx; exact hx) (by rw [List.getElem?_cons_succ] at hy; exact hy)
theorem vals_of : ∀ {xs : List V} {us : List Value}, xs.length = us.length → (∀ (n : Nat) (x : V) (u : Value), xs[n]? = some x → us[n]? = some u → RelV x u) → Vals xs us
  | [], [], _, _ => .nil
  | x :: xs, u :: us, e, h => .cons (h 0 x u rfl rfl) (vals_of (by simpa using e) fun n y v hy hv => h (n + 1) y v (by rw [List.getElem?_cons_succ]; exact hy) (by rw [List.getElem?_cons_succ]; exact hv))
  | [], _ :: _, e, _ => by simp at e
  | _ :: _, [], e, _ => by simp at e
theorem turn_zipN {P : Program} {w : World} {K : PySem.W.Frag} {tg : Expr} {z TI TO : Addr} {its as : List Addr} (D : Ap z TI TO its as) (ne : as ≠ []) (hle : as.length ≤ 20) (hgo : ∀ it v, letOwnedTupleGo tg it v = pure ()) :
    Turn P w K tg (ItzN K as) (z :: TI :: TO :: its) z (fun i h => Zst z TI TO its as i h) where
  mem := List.mem_cons_self
  obj := fun i h st c hc => by
    obtain ⟨⟨v0, f, hz, hv⟩, hTI, ⟨old, hTO, ho⟩, hi⟩ := st
    rcases List.mem_cons.mp hc with q | hc
    · rw [q]; exact ⟨_, hz, fun v q => nomatch q⟩
    rcases List.mem_cons.mp hc with q | hc
    · rw [q]; exact ⟨_, hTI, fun v q => nomatch q⟩
    rcases List.mem_cons.mp hc with q | hc
    · rw [q]; exact ⟨_, hTO, fun v q => nomatch q⟩
    obtain ⟨n, hn, en⟩ := List.getElem_of_mem hc
    obtain ⟨l, hl⟩ : ∃ l, as[n]? = some l := ⟨_, List.getElem?_eq_getElem (by have := D.ln; omega)⟩
    obtain ⟨o, e1, _, d1⟩ := hi n c l (by rw [List.getElem?_eq_getElem hn, en]) hl
    exact ⟨o, e1, fun v q => by rw [d1] at q; cases q⟩
  keep := fun i h h' st k => by
    obtain ⟨⟨v0, f, hz, hv⟩, hTI, ⟨old, hTO, ho⟩, hi⟩ := st
    exact ⟨⟨v0, f, k z List.mem_cons_self _ hz, hv⟩, k TI (by simp) _ hTI, ⟨old, k TO (by simp) _ hTO, ho⟩, fun n j l a b => (hi n j l a b).at fun o q => k j (by simp [List.mem_of_getElem? a]) o q⟩
  item := by
    intro X hP hw hK hc i pins s σ H E I hf st hg
    subst hP hw hK
    obtain ⟨xss, row, hq, hr⟩ := hg
    have alen := D.ln
    have ite : its ≠ [] := fun z => ne (List.length_eq_zero_iff.mp (by rw [alen, z]; rfl))
    obtain ⟨bs, eb, hb⟩ := pick (R := fun n a (b : Array Value × Value) => s.heap.IsList a b.1 ∧ b.1[i]? = some b.2 ∧ ∃ x, row[n]? = some x ∧ RelV x b.2) as fun n a ha => by
      have nl := (List.getElem?_eq_some_iff.mp ha).1
      obtain ⟨xs, hx⟩ : ∃ xs, xss[n]? = some xs := ⟨_, List.getElem?_eq_getElem (by have := hq.1; omega)⟩
      obtain ⟨x, hx2⟩ : ∃ x, row[n]? = some x := ⟨_, List.getElem?_eq_getElem (by have := hq.1; have := hr.1; omega)⟩
      obtain ⟨vs, rv, p, _⟩ := I.list (hq.2 n a xs ha hx)
      obtain ⟨u, hu, ru⟩ := rv.get ((hr.2 n xs hx).trans hx2)
      exact ⟨(vs.toArray, u), p.isList, by simpa using hu, x, hx2, ru⟩
    have hl : Ls s.heap as (bs.map (·.1)) := ⟨by rw [List.length_map, eb], fun n a xs ha hx => by
      rw [List.getElem?_map] at hx
      obtain ⟨b, e1, e2⟩ := Option.map_eq_some_iff.mp hx
      subst e2
      exact (hb n a b ha e1).1⟩
    have at_ : ∀ n b, bs[n]? = some b → ∃ a, as[n]? = some a := fun n b h => ⟨_, List.getElem?_eq_getElem (by have := (List.getElem?_eq_some_iff.mp h).1; omega)⟩
    have hrow : Row (bs.map (·.1)) i (bs.map (·.2)) := ⟨by simp, fun n xs hx => by
      rw [List.getElem?_map] at hx
      obtain ⟨b, e1, e2⟩ := Option.map_eq_some_iff.mp hx
      subst e2
      obtain ⟨a, ha⟩ := at_ n b e1
      rw [List.getElem?_map, e1]
      exact (hb n a b ha e1).2.1⟩
    have hv : Vals row (bs.map (·.2)) := vals_of (by rw [List.length_map, eb]; have := hq.1; have := hr.1; omega) fun n x u hx hu => by
      rw [List.getElem?_map] at hu
      obtain ⟨b, e1, e2⟩ := Option.map_eq_some_iff.mp hu
      subst e2
      obtain ⟨a, ha⟩ := at_ n b e1
      obtain ⟨y, hy, ry⟩ := (hb n a b ha e1).2.2
      rw [hx] at hy
      cases hy
      exact ry
    refine py_item D ite (by omega) st hl hrow fun h' st' hT hsz hk => ?_
    refine ⟨_, rfl, ?_⟩
    rw [hgo]
    have rlen : row.length ≤ sizeLine := by rw [hv.length, List.length_map, eb, sizeLine_eq]; omega
    have new : ObjOk X.prog X.w (upd H s.heap.objs.size (.tup row)) h' s.heap.objs.size (.tup row) := ⟨rlen, _, hv, ⟨_, hT, rfl, _, rfl⟩⟩
    have I1 : Inv X pins σ (upd H s.heap.objs.size (.tup row)) { s with heap := h' } :=
      I.turnedNew (t' := s.toks) (ch := z :: TI :: TO :: its) (fun c o hb q => hk c o (fun q' => hb (by simp [q'])) (fun q' => hb (by simp [q'])) (fun q' => hb (by simp [q'])) q) hf (Nat.le_refl _) new
    refine wpAny_pure ⟨.ref s.heap.objs.size, _, I1, rfl, ⟨_, row, rfl, I.hok.fresh (Nat.le_refl _), rfl, fun xss' hq' => ?_⟩, st', fun c hcm => ?_⟩
    · have e : xss' = xss := by
        refine List.ext_getElem? fun n => ?_
        by_cases z : n < as.length
        · obtain ⟨a, ha⟩ : ∃ a, as[n]? = some a := ⟨_, List.getElem?_eq_getElem z⟩
          obtain ⟨x1, h1⟩ : ∃ x, xss'[n]? = some x := ⟨_, List.getElem?_eq_getElem (by have := hq'.1; omega)⟩
          obtain ⟨x2, h2⟩ : ∃ x, xss[n]? = some x := ⟨_, List.getElem?_eq_getElem (by have := hq.1; omega)⟩
          rw [h1, h2, I.list_inj (hq'.2 n a x1 ha h1) (hq.2 n a x2 ha h2)]
        · rw [List.getElem?_eq_none (by have := hq'.1; omega), List.getElem?_eq_none (by have := hq.1; omega)]
      rw [e]
      exact hr
    · have hlt : c < s.heap.objs.size := by
        obtain ⟨⟨v0, f, hz, hv⟩, hTI, ⟨old, hTO, ho⟩, hi⟩ := st
        rcases List.mem_cons.mp hcm with q | hc
        · rw [q]; exact Heap.lt_size hz
        rcases List.mem_cons.mp hc with q | hc
        · rw [q]; exact Heap.lt_size hTI
        rcases List.mem_cons.mp hc with q | hc
        · rw [q]; exact Heap.lt_size hTO
        obtain ⟨n, hn, en⟩ := List.getElem_of_mem hc
        obtain ⟨l, hl⟩ : ∃ l, as[n]? = some l := ⟨_, List.getElem?_eq_getElem (by have := D.ln; omega)⟩
        obtain ⟨o, e1, _, d1⟩ := hi n c l (by rw [List.getElem?_eq_getElem hn, en]) hl
        exact Heap.lt_size e1
      rw [upd_ne (Nat.ne_of_lt hlt)]
      exact (hf c hcm).1
  done := by
    intro X hP hw hK hc i pins s σ H E I hf st hg
    subst hP hw hK
    obtain ⟨a, r, xs, rfl, hq, hend⟩ := hg
    obtain ⟨vs, rv, p, _⟩ := I.list hq
    cases its with
    | nil => exact absurd D.ln (by simp)
    | cons i0 its =>
      have he : vs.toArray[i]? = none := by have := rv.length; simp; omega
      exact py_end (I.ok.hd hc) D st p.isList he fun h' hk => ⟨rfl, I.turnedL (t' := s.toks) (ch := z :: TI :: TO :: i0 :: its) (fun c o hb q =>
        hk c o (fun q' => hb (by simp [q'])) (fun q' => hb (by rcases List.mem_cons.mp q' with q' | q' <;> simp [q'])) q) hf⟩
  self := fun A i s Q E st h => by
    obtain ⟨⟨v0, f, hz, hv⟩, _⟩ := st
    have hT : s.TypeIs (.ref z) "zip" := ⟨_, hz, rfl⟩
    refine wpAny_pyIter_slot hT F.slot_zip_iter (wpAny_call_entry F.slot_zip_iter hT F.entry_zip_iter ?_ (F.args_zip_iter_1 _))
    show wpAny _ _ (ret (.ref z)) _ _ s
    exact wpAny_pure ⟨_, rfl, "zip", _, hT, F.slot_zip_next.lookup, h⟩
/-! ### zip(*t) -/
section
variable {M : Model} {A : Around} {E : Value → Shared → Prop} {s : Shared}
theorem call_tyS {T : String} {pos p : Pos} {env : Env} {e : Expr} {Q : Value → Shared → Prop} (h : wpAny M A (eval e env) (fun v s₁ => PySem.W.StarOf M A E v (fun vs s₂ => wpAny M A (call (.type T) vs) Q E s₂) s₁) E s)
    (he : starEach [.Starred e p] env = [(true, eval e env)] := by rfl) :
    wpAny M A (callWith pos (.type T) [] (backTo pos (starEach [.Starred e p] env)) []) Q E s := by
  rw [he]
  refine PySem.W.ks_call (P := fun _ => True) rfl (fun h _ => ⟨.machine, .inr (.inl rfl), PySem.W.Looks.of_pure rfl⟩) (PySem.W.ks_lone ?_)
  refine wpAny_mono h (fun v s1 h1 => ?_) fun _ _ e => e
  unfold PySem.W.StarOf at h1 ⊢
  exact wpAny_mono h1 (fun b s2 h2 => ⟨h2.1, wpAny_mono h2.2 (fun vs s3 h3 => ⟨trivial, h3⟩) fun _ _ e => e⟩) fun _ _ e => e
end
theorem vals_refs : ∀ {as : List Addr} {us : List Value}, Vals (as.map V.ref) us → us = as.map Value.ref
  | [], _, r => by cases r; rfl
  | a :: as, _, r => by
    cases r with
    | cons r1 r2 => cases r1; rw [vals_refs r2]; rfl
section
variable {X : Cx}
def iZipN (K : PySem.W.Frag) (te : TE) : TI := fun σ H R => te σ H fun v H1 => ∃ t as xss, v = .ref t ∧ SqT K H1 t (as.map V.ref) ∧ as ≠ [] ∧ as.length ≤ 20 ∧ SqLs K H1 as xss ∧ R (ItzN K as) H1
theorem pi_zipN {e tg : Expr} {te : TE} {p sp pos : Pos} (hg : Gl X "zip") (hm : X.mg "zip" = none) (he : PE X e te) (hgo : ∀ it v, letOwnedTupleGo tg it v = pure ())
    (hst : starEach [.Starred e sp] X.env = [(true, eval e X.env)] := by rfl) :
    PI X tg (.Call (.Name "zip" p) [.Starred e sp] [] pos) (iZipN X.K te) := by
  refine ⟨fun pins s σ H R I h => ?_⟩
  refine Call_ (ld_blt I hg hm PyProof.Rows.boot_zip (call_tyS (thn (he.run pins s σ H _ I h) fun v s1 ⟨y, H1, I1, ry, t, as, xss, ey, ht, ne, hle, hq, q⟩ => ?_) hst))
  subst ey
  cases ry
  refine StX.star_any I1 (.inl ht) fun us s2 I2 rv => ?_
  have eus : us = as.map Value.ref := vals_refs rv
  subst eus
  obtain ⟨bs, eb, hb⟩ := pick (R := fun n a (b : Array Value) => s2.heap.IsList a b) as fun n a ha => by
    obtain ⟨xs, hx⟩ : ∃ xs, xss[n]? = some xs := ⟨_, List.getElem?_eq_getElem (by have := hq.1; have := (List.getElem?_eq_some_iff.mp ha).1; omega)⟩
    obtain ⟨vs, rv, p, _⟩ := I2.list (hq.2 n a xs ha hx)
    exact ⟨vs.toArray, p.isList⟩
  have hl : Ls s2.heap as bs := ⟨eb.symm, fun n a xs ha hx => hb n a xs ha hx⟩
  have lt : ∀ a ∈ as, a < s2.heap.objs.size := fun a ha => by
    obtain ⟨n, hn, en⟩ := List.getElem_of_mem ha
    obtain ⟨b, hb1⟩ : ∃ b, bs[n]? = some b := ⟨_, List.getElem?_eq_getElem (by omega)⟩
    obtain ⟨o, ho, _⟩ := hb n a b (by rw [List.getElem?_eq_getElem hn, en]) hb1
    exact Heap.lt_size ho
  refine call_zipN ne hle hl fun h' st hsz hk => ?_
  have D := ap_new lt
  have I3 : Inv X pins σ H1 { s2 with heap := h' } := I2.kept (t' := s2.toks) hk
  have fresh : ∀ c ∈ (s2.heap.objs.size + as.length + 2) :: (s2.heap.objs.size + as.length) :: (s2.heap.objs.size + as.length + 1) :: (List.range as.length).map (fun i => s2.heap.objs.size + i), FpOk X pins H1 c := fun c hcm => by
    have hge : s2.heap.objs.size ≤ c := by
      rcases List.mem_cons.mp hcm with q | hcm
      · rw [q]; exact Nat.le_trans (Nat.le_add_right _ _) (Nat.le_add_right _ _)
      rcases List.mem_cons.mp hcm with q | hcm
      · rw [q]; exact Nat.le_add_right _ _
      rcases List.mem_cons.mp hcm with q | hcm
      · rw [q]; exact Nat.le_trans (Nat.le_add_right _ _) (Nat.le_add_right _ _)
      obtain ⟨j, _, rfl⟩ := List.mem_map.mp hcm
      exact Nat.le_add_right _ _
    exact I2.fpOk hge (I2.hok.fresh hge)
  have T := turn_zipN (P := X.prog) (w := X.w) (K := X.K) (tg := tg) D ne hle hgo
  refine T.self _ 0 _ _ _ st ?_
  exact ⟨_, _, _, _, H1, rfl, I3, T, st, fresh, q⟩
end
end Z.ZN
/-! YH: list(zip(*t)). -/
namespace Z.ZN
open PySem PySem.Spec PyProof.Rows L2 RZ
theorem zip_no_len : typeLookup (.type "zip") "__len__" = pure none := PySem.am_miss_of_fast (by decide +kernel)
theorem zip_no_hint : typeLookup (.type "zip") "__length_hint__" = pure none := PySem.am_miss_of_fast (by decide +kernel)
/-- the tuples that are laid, one behind another -/
inductive Made (xss : List (List V)) (H : Hp) : Nat → Hp → List V → Prop
  | nil : Made xss H 0 H []
  | snoc {i : Nat} {G : Hp} {acc : List V} {T : Addr} {row : List V} : Made xss H i G acc → G T = none → RowV xss i row → Made xss H (i + 1) (upd G T (.tup row)) (acc ++ [.ref T])
theorem Made.len {xss : List (List V)} {H : Hp} {i : Nat} {G : Hp} {acc : List V} (h : Made xss H i G acc) : acc.length = i := by
  induction h with
  | nil => rfl
  | snoc _ _ _ ih => rw [List.length_append, ih]; rfl
theorem Made.mono {xss : List (List V)} {H : Hp} {i : Nat} {G : Hp} {acc : List V} (h : Made xss H i G acc) : ∀ a u, H a = some u → G a = some u := by
  induction h with
  | nil => exact fun _ _ e => e
  | snoc _ hT _ ih =>
    intro a u e
    have := ih a u e
    rw [upd_ne (fun z => by rw [z, hT] at this; cases this)]
    exact this
theorem Zst.keep {z TI TO : Addr} {its as : List Addr} {i : Nat} {h h' : Heap} (st : Zst z TI TO its as i h) (k : ∀ b ∈ z :: TI :: TO :: its, ∀ o, h.get? b = some o → h'.get? b = some o) : Zst z TI TO its as i h' := by
  obtain ⟨⟨v0, f, hz, hv⟩, hTI, ⟨old, hTO, ho⟩, hi⟩ := st
  exact ⟨⟨v0, f, k z List.mem_cons_self _ hz, hv⟩, k TI (by simp) _ hTI, ⟨old, k TO (by simp) _ hTO, ho⟩, fun n j l a b => (hi n j l a b).at fun o q => k j (by simp [List.mem_of_getElem? a]) o q⟩
theorem upd_comm {H : Hp} {a b : Addr} {x y : HO} (h : a ≠ b) : upd (upd H a x) b y = upd (upd H b y) a x := by
  funext c
  by_cases z : c = a
  · subst z
    rw [upd_ne h, upd_same, upd_same]
  · by_cases z2 : c = b
    · subst z2
      rw [upd_same, upd_ne z, upd_same]
    · rw [upd_ne z2, upd_ne z, upd_ne z, upd_ne z2]
section
variable {X : Cx} {pins : List (Addr × Obj)} {σ : L2.St}
theorem zip_turn {A : Around} {E : Value → Shared → Prop} {H : Hp} {s : Shared} {z TI TO : Addr} {its as : List Addr} {xss : List (List V)} {row : List V} {i : Nat} (D : Ap z TI TO its as) (ne : as ≠ []) (hle : as.length ≤ 20)
    (I : Inv X pins σ H s) (hf : ∀ b ∈ z :: TI :: TO :: its, FpOk X pins H b) (st : Zst z TI TO its as i s.heap) (hq : SqLs X.K H as xss) (hr : RowV xss i row) :
    wpAny (model X.prog X.w) A (pyNext (.ref z)) (fun r s1 => ∃ T, r = some (.ref T) ∧ H T = none ∧ Inv X pins σ (upd H T (.tup row)) s1 ∧ Zst z TI TO its as (i + 1) s1.heap ∧ T ∉ as ∧ ∀ b ∈ z :: TI :: TO :: its, FpOk X pins (upd H T (.tup row)) b) E s := by
  have alen := D.ln
  have ite : its ≠ [] := fun z => ne (List.length_eq_zero_iff.mp (by rw [alen, z]; rfl))
  obtain ⟨bs, eb, hb⟩ := pick (R := fun n a (b : Array Value × Value) => s.heap.IsList a b.1 ∧ b.1[i]? = some b.2 ∧ ∃ x, row[n]? = some x ∧ RelV x b.2) as fun n a ha => by
    have nl := (List.getElem?_eq_some_iff.mp ha).1
    obtain ⟨xs, hx⟩ : ∃ xs, xss[n]? = some xs := ⟨_, List.getElem?_eq_getElem (by have := hq.1; omega)⟩
    obtain ⟨x, hx2⟩ : ∃ x, row[n]? = some x := ⟨_, List.getElem?_eq_getElem (by have := hq.1; have := hr.1; omega)⟩
    obtain ⟨vs, rv, p, _⟩ := I.list (hq.2 n a xs ha hx)
    obtain ⟨u, hu, ru⟩ := rv.get ((hr.2 n xs hx).trans hx2)
    exact ⟨(vs.toArray, u), p.isList, by simpa using hu, x, hx2, ru⟩
  have hl : Ls s.heap as (bs.map (·.1)) := ⟨by rw [List.length_map, eb], fun n a xs ha hx => by
    rw [List.getElem?_map] at hx
    obtain ⟨b, e1, e2⟩ := Option.map_eq_some_iff.mp hx
    subst e2
    exact (hb n a b ha e1).1⟩
  have at_ : ∀ n b, bs[n]? = some b → ∃ a, as[n]? = some a := fun n b h => ⟨_, List.getElem?_eq_getElem (by have := (List.getElem?_eq_some_iff.mp h).1; omega)⟩
  have hrow : Row (bs.map (·.1)) i (bs.map (·.2)) := ⟨by simp, fun n xs hx => by
    rw [List.getElem?_map] at hx
    obtain ⟨b, e1, e2⟩ := Option.map_eq_some_iff.mp hx
    subst e2
    obtain ⟨a, ha⟩ := at_ n b e1
    rw [List.getElem?_map, e1]
    exact (hb n a b ha e1).2.1⟩
  have hv : Vals row (bs.map (·.2)) := vals_of (by rw [List.length_map, eb]; have := hq.1; have := hr.1; omega) fun n x u hx hu => by
    rw [List.getElem?_map] at hu
    obtain ⟨b, e1, e2⟩ := Option.map_eq_some_iff.mp hu
    subst e2
    obtain ⟨a, ha⟩ := at_ n b e1
    obtain ⟨y, hy, ry⟩ := (hb n a b ha e1).2.2
    rw [hx] at hy
    cases hy
    exact ry
  refine py_item D ite (by omega) st hl hrow fun h' st' hT hsz hk => ?_
  have rlen : row.length ≤ sizeLine := by rw [hv.length, List.length_map, eb, sizeLine_eq]; omega
  have new : ObjOk X.prog X.w (upd H s.heap.objs.size (.tup row)) h' s.heap.objs.size (.tup row) := ⟨rlen, _, hv, ⟨_, hT, rfl, _, rfl⟩⟩
  refine ⟨s.heap.objs.size, rfl, I.hok.fresh (Nat.le_refl _), I.turnedNew (t' := s.toks) (ch := z :: TI :: TO :: its) (fun c o hb q => hk c o (fun q' => hb (by simp [q'])) (fun q' => hb (by simp [q'])) (fun q' => hb (by simp [q'])) q) hf (Nat.le_refl _) new, st', fun hm => ?_, fun c hcm => ⟨?_, (hf c hcm).2⟩⟩
  · obtain ⟨n, hn, en⟩ := List.getElem_of_mem hm
    obtain ⟨b, hb1⟩ : ∃ b, bs[n]? = some b := ⟨_, List.getElem?_eq_getElem (by omega)⟩
    obtain ⟨o, ho, _⟩ := (hb n _ b (by rw [List.getElem?_eq_getElem hn, en]) hb1).1
    exact absurd (Heap.lt_size ho) (Nat.lt_irrefl _)
  have hlt : c < s.heap.objs.size := by
    obtain ⟨⟨v0, f, hz, hv⟩, hTI, ⟨old, hTO, ho⟩, hi⟩ := st
    rcases List.mem_cons.mp hcm with q | hc
    · rw [q]; exact Heap.lt_size hz
    rcases List.mem_cons.mp hc with q | hc
    · rw [q]; exact Heap.lt_size hTI
    rcases List.mem_cons.mp hc with q | hc
    · rw [q]; exact Heap.lt_size hTO
    obtain ⟨n, hn, en⟩ := List.getElem_of_mem hc
    obtain ⟨l, hl⟩ : ∃ l, as[n]? = some l := ⟨_, List.getElem?_eq_getElem (by have := D.ln; omega)⟩
    obtain ⟨o, e1, _, d1⟩ := hi n c l (by rw [List.getElem?_eq_getElem hn, en]) hl
    exact Heap.lt_size e1
  rw [upd_ne (Nat.ne_of_lt hlt)]
  exact (hf c hcm).1
theorem zip_stop {A : Around} {E : Value → Shared → Prop} {H : Hp} {s : Shared} {z TI TO : Addr} {its as : List Addr} {xss : List (List V)} {i : Nat} (hh : A.handled = none) (D : Ap z TI TO its as) (ne : as ≠ [])
    (I : Inv X pins σ H s) (hf : ∀ b ∈ z :: TI :: TO :: its, FpOk X pins H b) (st : Zst z TI TO its as i s.heap) (hq : SqLs X.K H as xss) (hx : xss.length = as.length) (hend : ∀ xs ∈ xss, xs.length ≤ i) :
    wpAny (model X.prog X.w) A (pyNext (.ref z)) (fun r s1 => r = none ∧ Inv X pins σ H s1) E s := by
  cases as with
  | nil => exact absurd rfl ne
  | cons a r =>
    cases its with
    | nil => exact absurd D.ln (by simp)
    | cons i0 its =>
      cases xss with
      | nil => simp at hx
      | cons xs xr =>
        obtain ⟨vs, rv, p, _⟩ := I.list (hq.2 0 a xs rfl rfl)
        have he : vs.toArray[i]? = none := by have := rv.length; have := hend xs List.mem_cons_self; simp; omega
        exact py_end hh D st p.isList he fun h' hk => ⟨rfl, I.turnedL (t' := s.toks) (ch := z :: TI :: TO :: i0 :: its) (fun c o hb q =>
          hk c o (fun q' => hb (by simp [q'])) (fun q' => hb (by rcases List.mem_cons.mp q' with q' | q' <;> simp [q'])) q) hf⟩
theorem SqLs.upd {K : PySem.W.Frag} {H : Hp} {as : List Addr} {xss : List (List V)} {T : Addr} {o : HO} (hq : SqLs K H as xss) (h : T ∉ as) : SqLs K (upd H T o) as xss := ⟨hq.1, fun n a xs ha hx => by
  have na : a ≠ T := fun z => h (z ▸ List.mem_of_getElem? ha)
  rcases hq.2 n a xs ha hx with q | q
  · left
    rcases q with q | ⟨o, q⟩
    · exact .inl (by rw [upd_ne na]; exact q)
    · exact .inr ⟨o, by rw [upd_ne na]; exact q⟩
  · exact .inr q⟩
theorem extend_zip {z TI TO S : Addr} {its as : List Addr} {xss : List (List V)} {N : Nat} {H0 : Hp} {A : Around} {R : Result → Shared → Prop} {res : Value} (D : Ap z TI TO its as) (ne : as ≠ []) (hle : as.length ≤ 20) (hh : A.handled = none)
    (hS : S ∉ z :: TI :: TO :: its) (hSa : S ∉ as) (hN : N ≤ 1000000) (hx : xss.length = as.length) (hxl : ∀ xs ∈ xss, xs.length = N) : ∀ (m i : Nat) (s : Shared) (G : Hp) (acc : List V), i + m = N → Made xss H0 i G acc → G S = none →
    Inv X pins σ (upd G S (.lst acc)) s → Zst z TI TO its as i s.heap → (∀ b ∈ z :: TI :: TO :: its, FpOk X pins (upd G S (.lst acc)) b) → SqLs X.K G as xss →
    (∀ G' acc' s', Made xss H0 N G' acc' → G' S = none → Inv X pins σ (upd G' S (.lst acc')) s' → R (.ok (.ret res)) s') →
    codeAny (model X.prog X.w) A (.builtin "list.extend.loop" ⟨[.ref S, .ref z, res], []⟩) R s := by
  intro m
  induction m with
  | zero =>
    intro i s G acc hi hM hG I st hf hq hR
    have hin : i = N := by omega
    subst hin
    refine codeAny_builtin F.entry_extend_loop ?_
    rw [Around.under_plainId F.plain_extend_loop _]
    show wpAny _ A.in1 (pyNext (.ref z) >>= _) _ _ s
    refine wpAny_bind (wpAny_mono (zip_stop (A := A.in1) (E := fun e s' => R (.error e) s') hh D ne I hf st (hq.upd hSa) hx fun xs hxs => by rw [hxl xs hxs]; exact Nat.le_refl _) (fun r s1 ⟨er, I1⟩ => ?_) fun _ _ e => e)
    subst er
    exact wpAny_pure (hR G acc s1 hM hG I1)
  | succ m ih =>
    intro i s G acc hi hM hG I st hf hq hR
    refine codeAny_builtin F.entry_extend_loop ?_
    rw [Around.under_plainId F.plain_extend_loop _]
    show wpAny _ A.in1 (pyNext (.ref z) >>= _) _ _ s
    obtain ⟨row, hrow⟩ : ∃ row, RowV xss i row := by
      refine ⟨xss.map fun xs => xs.getD i .non, by simp, fun n xs hn => ?_⟩
      rw [List.getElem?_map, hn]
      have := hxl xs (List.mem_of_getElem? hn)
      rw [Option.map_some, List.getD_eq_getElem?_getD, List.getElem?_eq_getElem (by omega)]
      rfl
    refine wpAny_bind (wpAny_mono (zip_turn (A := A.in1) (E := fun e s' => R (.error e) s') D ne hle I hf st (hq.upd hSa) hrow) (fun r s1 ⟨T, er, hT, I1, st1, Ta, hf1⟩ => ?_) fun _ _ e => e)
    subst er
    have nST : S ≠ T := fun e => by rw [← e, upd_same] at hT; cases hT
    have hT2 : G T = none := by rw [upd_ne (Ne.symm nST)] at hT; exact hT
    rw [upd_comm nST] at I1 hf1
    obtain ⟨its1, vs, n, rv, hlen, e1⟩ := I1.lstM (l := S) (xs := acc) upd_same
    have al := hM.len
    show wpAny _ A.in1 (updateSeq S (·.push (.ref T)) >>= _) _ _ _
    refine wpAny_bind ?_
    have I2 := I1.lset (l := S) (xs := acc) (ys := acc ++ [.ref T]) (its' := vs ++ [.ref T]) (f := fun a => a.push (.ref T)) (t' := s1.toks) upd_same e1 (by simp) (rv.append (.cons (show RelV (.ref T) (Value.ref T) from rfl) .nil)) (by rw [List.length_append, List.length_singleton, al, sizeLine_eq]; omega)
    have vl := rv.length
    refine wpAny_updateSeq e1 rfl (wpAny_pure ⟨plainId_quiet F.plain_extend_loop _, ?_⟩) (by simp; rw [sizeLine_eq]; omega) (by simp; rw [sizeLine_eq]; omega)
    have eG : upd (upd (upd G T (.tup row)) S (.lst acc)) S (.lst (acc ++ [.ref T])) = upd (upd G T (.tup row)) S (.lst (acc ++ [.ref T])) := by
      funext c
      by_cases z : c = S
      · subst z; rw [upd_same, upd_same]
      · rw [upd_ne z, upd_ne z, upd_ne z]
    rw [eG] at I2
    refine ih (i + 1) _ _ _ (by omega) (hM.snoc hT2 hrow) (by rw [upd_ne nST]; exact hG) I2 ?_ (fun b hb => ?_) (hq.upd Ta) hR
    · exact st1.keep fun b hb o e => (Heap.get?_update_other _ _ (fun e' : S = b => hS (by rw [e']; exact hb))).trans e
    · have nb : b ≠ S := fun e' => hS (by rw [← e']; exact hb)
      refine ⟨?_, (hf1 b hb).2⟩
      have := (hf1 b hb).1
      rw [upd_ne nb] at this ⊢
      exact this
theorem pyIter_z {A : Around} {E : Value → Shared → Prop} {s : Shared} {z TI TO : Addr} {its as : List Addr} {i : Nat} {Q : Value → Shared → Prop} (st : Zst z TI TO its as i s.heap) (h : Q (.ref z) s) : wpAny (model X.prog X.w) A (pyIter (.ref z)) Q E s := by
  obtain ⟨⟨v0, f, hz, hv⟩, _⟩ := st
  have hT : s.TypeIs (.ref z) "zip" := ⟨_, hz, rfl⟩
  refine wpAny_pyIter_slot hT F.slot_zip_iter (wpAny_call_entry F.slot_zip_iter hT F.entry_zip_iter ?_ (F.args_zip_iter_1 _))
  show wpAny _ _ (ret (.ref z)) _ _ s
  exact wpAny_pure ⟨_, rfl, "zip", _, hT, F.slot_zip_next.lookup, h⟩
theorem call_listZip {z TI TO : Addr} {its as : List Addr} {xss : List (List V)} {N : Nat} {H : Hp} {s : Shared} {E : Value → Shared → Prop} (hh : X.A.handled = none) (D : Ap z TI TO its as) (ne : as ≠ []) (hle : as.length ≤ 20)
    (hN : N ≤ 1000000) (hx : xss.length = as.length) (hxl : ∀ xs ∈ xss, xs.length = N) (I : Inv X pins σ H s) (st : Zst z TI TO its as 0 s.heap) (hf : ∀ b ∈ z :: TI :: TO :: its, FpOk X pins H b) (hq : SqLs X.K H as xss)
    (lt : ∀ b ∈ z :: TI :: TO :: its, b < s.heap.objs.size) (lta : ∀ a ∈ as, a < s.heap.objs.size) :
    wpAny (model X.prog X.w) X.A (call (.type "list") [.ref z]) (fun v s' => ∃ S G acc, v = .ref S ∧ Made xss H N G acc ∧ G S = none ∧ Inv X pins σ (upd G S (.lst acc)) s') E s := by
  have zl := lt z List.mem_cons_self
  have hSz : s.heap.objs.size ≠ z := Nat.ne_of_gt zl
  refine callType_codes (Q₁ := fun obj s₁ => obj = .ref s.heap.objs.size ∧ s₁ = { s with heap := s.heap.push { cls := .type "list", data := .seq #[] } }) F.called_list (F.typeCall_list_1 _) F.entry_list_init
    (code_list_new _ ⟨rfl, rfl⟩) fun obj s₁ h₁ => ?_
  obtain ⟨rfl, rfl⟩ := h₁
  have hS : (s.heap.push { cls := .type "list", data := .seq #[] }).get? s.heap.objs.size = some { cls := .type "list", data := .seq #[] } := Heap.get?_push_size _ rfl
  refine ⟨⟨_, hS, rfl⟩, F.args_list_init_2 _ _, ?_⟩
  show wpAny _ X.A.in1.in1 (do let old ← Builtin.List.listItems (.ref s.heap.objs.size); Builtin.List.listUpdate (.ref s.heap.objs.size) (fun _ => #[]); letGo old.toList.reverse; Builtin.List.listExtendWith (.ref s.heap.objs.size) (.ref z) .none) _ _ _
  refine wpAny_bind ?_
  unfold Builtin.List.listItems
  refine wpAny_bind (wpAny_seqItems hS rfl (wpAny_pure ?_))
  show wpAny _ X.A.in1.in1 (updateSeq s.heap.objs.size (fun _ => #[]) >>= fun _ => letGo (#[] : Array Value).toList.reverse >>= fun _ => Builtin.List.listExtendWith (.ref s.heap.objs.size) (.ref z) .none) _ _ _
  refine wpAny_bind (wpAny_updateSeq hS rfl ?_)
  have hS2 := Heap.get?_update_self (Obj.mapSeq (fun _ => (#[] : Array Value))) hS rfl
  refine wpAny_bind (wpAny_letGo ?_)
  unfold Builtin.List.listExtendWith
  have up : ∀ (h : Heap) (f : Obj → Obj), (∀ b o, s.heap.get? b = some o → h.get? b = some o) → ∀ b o, s.heap.get? b = some o → (h.update s.heap.objs.size f).get? b = some o := fun h f q b o e =>
    (Heap.get?_update_other _ _ (Ne.symm (Nat.ne_of_lt (Heap.lt_size e)))).trans (q b o e)
  have k1 : ∀ b o, s.heap.get? b = some o → (s.heap.push { cls := .type "list", data := .seq #[] }).get? b = some o := fun b o e => Heap.get?_push_of_some _ e
  have k2 := up _ (Obj.mapSeq (fun _ => (#[] : Array Value))) k1
  have gst : ∀ {h : Heap}, (∀ b o, s.heap.get? b = some o → h.get? b = some o) → Zst z TI TO its as 0 h := fun {h} q => st.keep fun b _ o e => q b o e
  have gty : ∀ {h : Heap}, (∀ b o, s.heap.get? b = some o → h.get? b = some o) → ({ s with heap := h } : Shared).TypeIs (.ref z) "zip" := fun {h} q => by
    obtain ⟨⟨v0, f, hz, hv⟩, _⟩ := st
    exact ⟨_, q _ _ hz, rfl⟩
  refine wpAny_bind (wpAny_typeOf (gty k2) ?_)
  have h1 : Builtin.List.listSameRef (.ref s.heap.objs.size) (.ref z) = false := by simp [Builtin.List.listSameRef, hSz]
  have h2 : (Value.type "zip" == Value.type "list") = false := by decide
  have h3 : (Value.type "zip" == Value.type "tuple") = false := by decide
  simp only [h1, h2, h3, Bool.or_false, Bool.false_eq_true, if_false]
  refine wpAny_bind (pyIter_z (s := { s with heap := _ }) (gst k2) ?_)
  refine wpAny_bind (wpAny_holding ?_)
  unfold Builtin.List.listLengthHint
  refine wpAny_bind (wpAny_specialOf (gty k2) zip_no_len ?_)
  show wpAny _ X.A.in1.in1 (specialOf (Value.ref z) (Str.ofString "__length_hint__") >>= _) _ _ _
  refine wpAny_bind (wpAny_specialOf (gty k2) zip_no_hint ?_)
  refine wpAny_pure ?_
  show wpAny _ X.A.in1.in1 (rule "list.extend.makes-room" >>= fun _ => Builtin.List.listTouch (.ref s.heap.objs.size) >>= fun _ =>
    again (.builtin "list.extend.loop" ⟨[.ref s.heap.objs.size, .ref z, .none], []⟩)) _ _ _
  refine wpAny_bind (wpAny_rule ?_)
  refine wpAny_bind ?_
  show wpAny _ X.A.in1.in1 (updateSeq s.heap.objs.size (·.push .none) >>= fun _ => updateSeq s.heap.objs.size (·.pop)) _ _ _
  refine wpAny_bind (wpAny_updateSeq hS2 rfl ?_)
  have hS3 := Heap.get?_update_self (Obj.mapSeq (·.push Value.none)) hS2 rfl
  refine wpAny_updateSeq (hz := by seq_fits) hS3 rfl ?_
  have hS4 := Heap.get?_update_self (Obj.mapSeq (·.pop)) hS3 rfl
  have k4 := up _ (Obj.mapSeq (·.pop)) (up _ (Obj.mapSeq (·.push Value.none)) k2)
  refine wpAny_pure ⟨plainId_quiet F.plain_extend_loop _, ?_⟩
  have nS : s.heap.objs.size ∉ z :: TI :: TO :: its := fun h => Nat.lt_irrefl _ (lt _ h)
  have nSa : s.heap.objs.size ∉ as := fun h => Nat.lt_irrefl _ (lta _ h)
  have I4 := I.laid (t' := s.toks) (a := s.heap.objs.size) (o := .lst []) k4 (Nat.le_refl _) ⟨Nat.zero_le _, [], _, .nil, hS4⟩
  refine extend_zip (A := X.A.in1) (H0 := H) D ne hle hh nS nSa hN hx hxl N 0 _ H [] (Nat.zero_add _) .nil (I.hok.fresh (Nat.le_refl _)) I4 (gst k4) (fun b hb => ⟨?_, (hf b hb).2⟩) hq fun G' acc' s' hM hG I' => ⟨rfl, _, G', acc', rfl, hM, hG, I'⟩
  rw [upd_ne (Nat.ne_of_lt (lt b hb))]
  exact (hf b hb).1
end
end Z.ZN
/-! YI: zip(*t) and list(zip(*t)), readings. -/
namespace Z.ZN
open PySem PySem.Spec PyProof.Rows L2
section
variable {X : Cx}
def tLZ (K : PySem.W.Frag) (te : TE) : TE := fun σ H Q => te σ H fun v H1 => ∃ t as xss N, v = .ref t ∧ SqT K H1 t (as.map V.ref) ∧ as ≠ [] ∧ as.length ≤ 20 ∧ SqLs K H1 as xss ∧ N ≤ 1000000 ∧ (∀ xs ∈ xss, xs.length = N) ∧
  ∀ G acc S, Made xss H1 N G acc → G S = none → Q (.ref S) (upd G S (.lst acc))
theorem pe_listZ {e : Expr} {te : TE} {p p2 sp pos pos2 : Pos} (hc : X.calm = true) (hg : Gl X "list") (hm : X.mg "list" = none) (hg2 : Gl X "zip") (hm2 : X.mg "zip" = none) (he : PE X e te)
    (hst : starEach [.Starred e sp] X.env = [(true, eval e X.env)] := by rfl)
    (hs : starEach [.Call (.Name "zip" p2) [.Starred e sp] [] pos2] X.env = (false, eval (.Call (.Name "zip" p2) [.Starred e sp] [] pos2) X.env) :: starEach [] X.env := by rfl) :
    PE X (.Call (.Name "list" p) [.Call (.Name "zip" p2) [.Starred e sp] [] pos2] [] pos) (tLZ X.K te) := by
  refine ⟨fun pins s σ H Q I h => ?_⟩
  refine Call_ (ld_blt I hg hm Pv.boot_list (PyProof.Rows.callWith_type1 ?_ hs rfl))
  rw [hs]
  show wpAny _ _ (spliced ((false, eval (.Call (.Name "zip" p2) [.Starred e sp] [] pos2) X.env) :: backTo pos (starEach [] X.env))) _ _ s
  refine Calls.spliced_cons ?_
  refine Call_ (ld_blt I hg2 hm2 PyProof.Rows.boot_zip (call_tyS (thn (he.run pins s σ H _ I h) fun v s1 ⟨y, H1, I1, ry, t, as, xss, N, ey, ht, ne, hle, hq, hN, hxl, q⟩ => ?_) hst))
  subst ey
  cases ry
  refine StX.star_any I1 (.inl ht) fun us s2 I2 rv => ?_
  have eus : us = as.map Value.ref := vals_refs rv
  subst eus
  obtain ⟨bs, eb, hb⟩ := pick (R := fun n a (b : Array Value) => s2.heap.IsList a b) as fun n a ha => by
    obtain ⟨xs, hx⟩ : ∃ xs, xss[n]? = some xs := ⟨_, List.getElem?_eq_getElem (by have := hq.1; have := (List.getElem?_eq_some_iff.mp ha).1; omega)⟩
    obtain ⟨vs, rv, p, _⟩ := I2.list (hq.2 n a xs ha hx)
    exact ⟨vs.toArray, p.isList⟩
  have hl : Ls s2.heap as bs := ⟨eb.symm, fun n a xs ha hx => hb n a xs ha hx⟩
  have lt : ∀ a ∈ as, a < s2.heap.objs.size := fun a ha => by
    obtain ⟨n, hn, en⟩ := List.getElem_of_mem ha
    obtain ⟨b, hb1⟩ : ∃ b, bs[n]? = some b := ⟨_, List.getElem?_eq_getElem (by omega)⟩
    obtain ⟨o, ho, _⟩ := hb n a b (by rw [List.getElem?_eq_getElem hn, en]) hb1
    exact Heap.lt_size ho
  refine call_zipN ne hle hl fun h' st hsz hk => ?_
  have D := ap_new lt
  have I3 : Inv X pins σ H1 { s2 with heap := h' } := I2.kept (t' := s2.toks) hk
  have bnd : ∀ c ∈ (s2.heap.objs.size + as.length + 2) :: (s2.heap.objs.size + as.length) :: (s2.heap.objs.size + as.length + 1) :: (List.range as.length).map (fun i => s2.heap.objs.size + i), s2.heap.objs.size ≤ c ∧ c < h'.objs.size := fun c hcm => by
    rw [hsz]
    rcases List.mem_cons.mp hcm with q | hcm
    · rw [q]; exact ⟨Nat.le_trans (Nat.le_add_right _ _) (Nat.le_add_right _ _), Nat.lt_succ_self _⟩
    rcases List.mem_cons.mp hcm with q | hcm
    · rw [q]; exact ⟨Nat.le_add_right _ _, Nat.lt_of_lt_of_le (Nat.lt_succ_self _) (Nat.add_le_add_left (by decide : 1 ≤ 3) _)⟩
    rcases List.mem_cons.mp hcm with q | hcm
    · rw [q]; exact ⟨Nat.le_trans (Nat.le_add_right _ _) (Nat.le_add_right _ _), Nat.lt_of_lt_of_le (Nat.lt_succ_self _) (Nat.add_le_add_left (by decide : 2 ≤ 3) _)⟩
    obtain ⟨j, hj, rfl⟩ := List.mem_map.mp hcm
    have hj := List.mem_range.mp hj
    exact ⟨Nat.le_add_right _ _, by show s2.heap.objs.size + j < s2.heap.objs.size + as.length + 3; omega⟩
  have fresh : ∀ c ∈ (s2.heap.objs.size + as.length + 2) :: (s2.heap.objs.size + as.length) :: (s2.heap.objs.size + as.length + 1) :: (List.range as.length).map (fun i => s2.heap.objs.size + i), FpOk X pins H1 c := fun c hcm => I2.fpOk (bnd c hcm).1 (I2.hok.fresh (bnd c hcm).1)
  refine Calls.spliced_nil ?_
  refine wpAny_mono (call_listZip (s := { s2 with heap := h' }) (I3.ok.hd hc) D ne hle hN hq.1 hxl I3 st fresh hq (fun b hb => (bnd b hb).2) fun a ha => Nat.lt_of_lt_of_le (lt a ha) (by rw [show ({ s2 with heap := h' } : Shared).heap.objs.size = _ from hsz]; exact Nat.le_trans (Nat.le_add_right _ _) (Nat.le_add_right _ _))) (fun v s' ⟨S, G, acc, ev, hM, hG, I'⟩ => ?_) fun _ _ e => e
  exact ⟨.ref S, _, I', by rw [ev]; rfl, q G acc S hM hG⟩
end
end Z.ZN
namespace Z
open PySem PySem.Spec PyProof.Rows L2 Z.ZN
/-- lists of data -/
def unL : List PyData → Option (List (List PyData))
  | [] => some []
  | .list l :: r => (unL r).map (l :: ·)
  | _ => none
theorem unL_lists : ∀ ls : List (List PyData), unL (ls.map PyData.list) = some ls
  | [] => rfl
  | l :: ls => by rw [List.map_cons, unL, unL_lists ls]; rfl
/-- the rows of a zip -/
def zipT (ls : List (List PyData)) : List PyData := (List.range (ls.headD []).length).map fun i => .tuple (ls.map fun l => l.getD i .none)
def ZipOk (ls : List (List PyData)) : Prop := ls ≠ [] ∧ ls.length ≤ 20 ∧ ∀ l ∈ ls, l.length = (ls.headD []).length
theorem unL_sq {K : PySem.W.Frag} {F : Hp} : ∀ {vs : List V} {ds : List PyData} {ls : List (List PyData)}, IsDs K F vs ds → unL ds = some ls → ∃ as xss, vs = as.map V.ref ∧ SqLs K F as xss ∧ xss.length = ls.length ∧ ∀ (n : Nat) (xs : List V) (l : List PyData), xss[n]? = some xs → ls[n]? = some l → IsDs K F xs l
  | _, _, ls, .nil, e => by
    cases e
    exact ⟨[], [], rfl, ⟨rfl, fun n a xs h => by simp at h⟩, rfl, fun n xs l h => by simp at h⟩
  | _, _, ls, .cons (d := d) h t, e => by
    cases d with
    | list l =>
      rw [unL] at e
      obtain ⟨ls', e1, e2⟩ := Option.map_eq_some_iff.mp e
      subst e2
      obtain ⟨as, xss, rfl, hq, hl, hd⟩ := unL_sq t e1
      cases h with
      | lst h1 h2 =>
        rename_i a xs
        refine ⟨a :: as, xs :: xss, rfl, ⟨by rw [List.length_cons, List.length_cons, hq.1], fun n b ys hn hy => ?_⟩, by rw [List.length_cons, List.length_cons, hl], fun n ys k hn hk => ?_⟩
        · cases n with
          | zero => cases hn; cases hy; exact .inl (.inl h1)
          | succ n => exact hq.2 n b ys (by rw [List.getElem?_cons_succ] at hn; exact hn) (by rw [List.getElem?_cons_succ] at hy; exact hy)
        · cases n with
          | zero => cases hn; cases hk; exact h2
          | succ n => exact hd n ys k (by rw [List.getElem?_cons_succ] at hn; exact hn) (by rw [List.getElem?_cons_succ] at hk; exact hk)
    | _ => cases e
theorem SqLs.mono {K : PySem.W.Frag} {F H : Hp} {as : List Addr} {xss : List (List V)} (e : Same F H) (h : SqLs K F as xss) : SqLs K H as xss := ⟨h.1, fun n a xs ha hx => by
  rcases h.2 n a xs ha hx with q | q
  · exact .inl (rd_mono e q)
  · exact .inr q⟩
theorem ds_row {K : PySem.W.Frag} {F : Hp} {i : Nat} : ∀ {xss : List (List V)} {ls : List (List PyData)} {row : List V}, xss.length = ls.length → (∀ (n : Nat) (xs : List V) (l : List PyData), xss[n]? = some xs → ls[n]? = some l → IsDs K F xs l) → (∀ l ∈ ls, i < l.length) → RowV xss i row → IsDs K F row (ls.map fun l => l.getD i .none)
  | [], [], [], _, _, _, _ => .nil
  | [], [], _ :: _, _, _, _, hr => absurd hr.1 (by simp)
  | xs :: xss, l :: ls, [], _, _, _, hr => absurd hr.1 (by simp)
  | [], _ :: _, _, e, _, _, _ => absurd e (by simp)
  | _ :: _, [], _, e, _, _, _ => absurd e (by simp)
  | xs :: xss, l :: ls, x :: row, e, h, hi, hr => by
    have h0 := h 0 xs l rfl rfl
    have i0 := hi l List.mem_cons_self
    obtain ⟨v, e1, e2⟩ := h0.get (List.getElem?_eq_getElem i0)
    have e3 := hr.2 0 xs rfl
    rw [e1] at e3
    cases e3
    rw [List.map_cons, List.getD_eq_getElem?_getD, List.getElem?_eq_getElem i0]
    exact .cons e2 (ds_row (by simpa using e) (fun n ys k a b => h (n + 1) ys k (by rw [List.getElem?_cons_succ]; exact a) (by rw [List.getElem?_cons_succ]; exact b)) (fun k hk => hi k (List.mem_cons_of_mem _ hk)) ⟨by simpa using hr.1, fun n ys hn => by
      have := hr.2 (n + 1) ys (by rw [List.getElem?_cons_succ]; exact hn)
      rw [List.getElem?_cons_succ] at this
      exact this⟩)
theorem row_len {K : PySem.W.Frag} {F : Hp} {xss : List (List V)} {ls : List (List PyData)} {N : Nat} (e : xss.length = ls.length) (h : ∀ (n : Nat) (xs : List V) (l : List PyData), xss[n]? = some xs → ls[n]? = some l → IsDs K F xs l) (hl : ∀ l ∈ ls, l.length = N) : ∀ xs ∈ xss, xs.length = N := fun xs hx => by
  obtain ⟨n, hn, en⟩ := List.getElem_of_mem hx
  have nl : n < ls.length := by omega
  rw [(h n xs ls[n] (by rw [List.getElem?_eq_getElem hn, en]) (List.getElem?_eq_getElem nl)).length]
  exact hl _ (List.getElem_mem nl)
def sZipT (t : AE) : AI := fun E m R => t E m fun u m1 => match u with
  | .v (.tuple ds) => (match unL ds with
    | some ls => ZipOk ls ∧ R ((zipT ls).map U.v) (fun _ => True) m1
    | none => False)
  | _ => False
def dLZ (mu : Bool) (t : AE) : AE := fun E m Q => t E m fun u m1 => match u with
  | .v (.tuple ds) => (match unL ds with
    | some ls => ZipOk ls ∧ (ls.headD []).length ≤ 1000000 ∧ nw mu (zipT ls) m1 Q
    | none => False)
  | _ => False
theorem made_known {K : PySem.W.Frag} {F H : Hp} {ro : List Addr} {m : Sto} {xss : List (List V)} {ls : List (List PyData)} {N : Nat} (e : xss.length = ls.length) (h : ∀ (n : Nat) (xs : List V) (l : List PyData), xss[n]? = some xs → ls[n]? = some l → IsDs K F xs l) (hl : ∀ l ∈ ls, l.length = N) (c : ConM K F ro H m) : ∀ {i : Nat} {G : Hp} {acc : List V}, Made xss H i G acc → i ≤ N →
    ∃ F2, ConM K F2 ro G m ∧ Gro F ro H F2 ro G ∧ IsDs K F2 acc ((List.range i).map fun j => .tuple (ls.map fun l => l.getD j .none)) := by
  intro i G acc hM
  induction hM with
  | nil => exact fun _ => ⟨F, c, Gro.refl, .nil⟩
  | @snoc i G acc T row hM hT hr ih =>
    intro hi
    obtain ⟨F1, c1, g1, d1⟩ := ih (by omega)
    have dr := ds_row (F := F1) e (fun n xs l a b => IsDs.mono g1.ex (h n xs l a b)) (fun l hl' => by rw [hl l hl']; omega) hr
    obtain ⟨F2, c2, g2, d2⟩ := pair_known c1 hT dr
    refine ⟨F2, c2, g1.trans g2, ?_⟩
    rw [List.range_succ, List.map_append]
    exact (IsDs.mono g2.ex d1).append (.cons d2 .nil)
section
variable {X : Cx}
theorem de_listZ (mu : Bool) {e : Expr} {f : AE} {p p2 sp pos pos2 : Pos} (hc : X.calm = true) (hm : X.mg "list" = none) (hm2 : X.mg "zip" = none) (he : DE X e f) (hg : Gl X "list" := by rfl) (hg2 : Gl X "zip" := by rfl)
    (hst : starEach [.Starred e sp] X.env = [(true, eval e X.env)] := by rfl)
    (hs : starEach [.Call (.Name "zip" p2) [.Starred e sp] [] pos2] X.env = (false, eval (.Call (.Name "zip" p2) [.Starred e sp] [] pos2) X.env) :: starEach [] X.env := by rfl) :
    DE X (.Call (.Name "list" p) [.Call (.Name "zip" p2) [.Starred e sp] [] pos2] [] pos) (dLZ mu f) :=
  pe_imp (pe_listZ hc hg hm hg2 hm2 he hst hs) fun σ H Q ⟨F, ro, E, m, Qa, cm, ce, hf, p⟩ =>
    ⟨F, ro, E, m, _, cm, ce, hf, fun F1 ro1 H1 u v m1 g1 c1 i1 h1 => by
      revert h1
      split
      · rename_i ds
        split
        · rename_i ls el
          intro h1
          cases i1 with
          | tup h2 h3 =>
            rename_i a vs
            obtain ⟨as, xss, rfl, hq, hl, hd⟩ := unL_sq h3 el
            obtain ⟨⟨z1, z2, z3⟩, z4, q⟩ := h1
            have la : as.length = ls.length := by rw [← hq.1, hl]
            refine ⟨a, as, xss, _, rfl, .inl (rd_mono c1.ex h2), fun z => z1 (List.length_eq_zero_iff.mp (by rw [← la, z]; rfl)), by omega, SqLs.mono c1.ex hq, z4, row_len hl hd z3, fun G acc S hM hG => ?_⟩
            obtain ⟨F2, c2, g2, d2⟩ := made_known hl hd z3 c1 hM (Nat.le_refl _)
            exact ((p.at g1).at g2).nw c2 mu d2 q S hG
        · exact fun h => h.elim
      · exact fun h => h.elim⟩
theorem di_zipT {tg e : Expr} {f : AE} {p sp pos : Pos} (hm : X.mg "zip" = none) (he : DE X e f) (hgo : ∀ it v, letOwnedTupleGo tg it v = pure () := by intro _ _; rfl) (hg : Gl X "zip" := by rfl)
    (hst : starEach [.Starred e sp] X.env = [(true, eval e X.env)] := by rfl) : DI X tg (.Call (.Name "zip" p) [.Starred e sp] [] pos) (sZipT f) :=
  pi_imp (pi_zipN hg hm he hgo hst) fun σ H R ⟨F, ro, E, m, Ra, c, ce, hf, p⟩ =>
    ⟨F, ro, E, m, _, c, ce, hf, fun F1 ro1 H1 u v m1 g1 c1 i1 h1 => by
      revert h1
      split
      · rename_i ds
        split
        · rename_i ls el
          intro h1
          cases i1 with
          | tup h2 h3 =>
            rename_i a vs
            obtain ⟨as, xss, rfl, hq, hl, hd⟩ := unL_sq h3 el
            obtain ⟨⟨z1, z2, z3⟩, q⟩ := h1
            have la : as.length = ls.length := by rw [← hq.1, hl]
            have nea : as ≠ [] := fun z => z1 (List.length_eq_zero_iff.mp (by rw [← la, z]; rfl))
            have xl := row_len hl hd z3
            refine ⟨a, as, xss, rfl, .inl (rd_mono c1.ex h2), nea, by omega, SqLs.mono c1.ex hq, p F1 ro1 H1 _ _ m1 _ g1 c1 ?_ q⟩
            have zl : ((zipT ls).map U.v).length = (ls.headD []).length := by simp [zipT]
            refine ⟨fun i F' ro' H' m' g c' gd hi => ?_, fun F' ro' H' m' g c' gd => ?_, fun i w F' ro' H' m' x H2 g c' gd hw hy => ?_⟩
            · rw [zl] at hi
              refine ⟨xss, xss.map fun xs => xs.getD i .non, SqLs.mono c'.ex (SqLs.mono g.ex hq), by simp, fun n xs hn => ?_⟩
              rw [List.getElem?_map, hn]
              have := xl xs (List.mem_of_getElem? hn)
              rw [Option.map_some, List.getD_eq_getElem?_getD, List.getElem?_eq_getElem (by omega)]
              rfl
            · rw [zl]
              cases as with
              | nil => exact absurd rfl nea
              | cons b r =>
                cases xss with
                | nil => exact absurd hq.1 (by simp)
                | cons xs xr => exact ⟨b, r, xs, rfl, (SqLs.mono c'.ex (SqLs.mono g.ex hq)).2 0 b xs rfl rfl, by rw [xl xs List.mem_cons_self]; exact Nat.le_refl _⟩
            · obtain ⟨T, row, rfl, hT, rfl, hy⟩ := hy
              have hi : i < (ls.headD []).length := by
                rw [← zl]
                exact (List.getElem?_eq_some_iff.mp hw).1
              have ew : w = .v (.tuple (ls.map fun l => l.getD i .none)) := by
                unfold zipT at hw
                rw [List.getElem?_map, List.getElem?_map, List.getElem?_range hi] at hw
                exact (Option.some.inj hw).symm
              subst ew
              have dr := ds_row (F := F') hl (fun n xs l a b => IsDs.mono g.ex (hd n xs l a b)) (fun l hl' => by rw [z3 l hl']; exact hi) (hy xss (SqLs.mono c'.ex (SqLs.mono g.ex hq)))
              exact pair_known c' hT dr
        · exact fun h => h.elim
      · exact fun h => h.elim⟩
end
end Z
/-! YJ: max and min of a tuple of ints. -/
namespace Z
open PySem PySem.Spec PyProof.Rows L2
theorem top_fold : ∀ (xs : List Int) (x : Int), (PySem.W.maxOf x xs ∈ x :: xs) ∧ ∀ y ∈ x :: xs, y ≤ PySem.W.maxOf x xs
  | [], x => ⟨List.mem_cons_self, fun y hy => by rw [List.mem_singleton.mp hy]; exact Int.le_refl _⟩
  | z :: xs, x => by
    have e : PySem.W.maxOf x (z :: xs) = PySem.W.maxOf (if x < z then z else x) xs := by
      show PySem.W.maxOf (if decide (x < z) = true then z else x) xs = _
      simp only [decide_eq_true_eq]
    obtain ⟨h1, h2⟩ := top_fold xs (if x < z then z else x)
    rw [e]
    have h0 := h2 _ List.mem_cons_self
    generalize PySem.W.maxOf (if x < z then z else x) xs = M at h0 h1 h2 ⊢
    have hb : x ≤ M ∧ z ≤ M := by
      by_cases q : x < z
      · rw [if_pos q] at h0; omega
      · rw [if_neg q] at h0; omega
    refine ⟨?_, fun y hy => ?_⟩
    · rcases List.mem_cons.mp h1 with q | q
      · rw [q]; split
        · simp
        · simp
      · simp [q]
    · rcases List.mem_cons.mp hy with rfl | hy
      · exact hb.1
      rcases List.mem_cons.mp hy with rfl | hy
      · exact hb.2
      · exact h2 y (List.mem_cons_of_mem _ hy)
theorem low_fold : ∀ (xs : List Int) (x : Int), (PySem.W.minOf x xs ∈ x :: xs) ∧ ∀ y ∈ x :: xs, PySem.W.minOf x xs ≤ y
  | [], x => ⟨List.mem_cons_self, fun y hy => by rw [List.mem_singleton.mp hy]; exact Int.le_refl _⟩
  | z :: xs, x => by
    have e : PySem.W.minOf x (z :: xs) = PySem.W.minOf (if z < x then z else x) xs := by
      show PySem.W.minOf (if decide (z < x) = true then z else x) xs = _
      simp only [decide_eq_true_eq]
    obtain ⟨h1, h2⟩ := low_fold xs (if z < x then z else x)
    rw [e]
    have h0 := h2 _ List.mem_cons_self
    generalize PySem.W.minOf (if z < x then z else x) xs = M at h0 h1 h2 ⊢
    have hb : M ≤ x ∧ M ≤ z := by
      by_cases q : z < x
      · rw [if_pos q] at h0; omega
      · rw [if_neg q] at h0; omega
    refine ⟨?_, fun y hy => ?_⟩
    · rcases List.mem_cons.mp h1 with q | q
      · rw [q]; split
        · simp
        · simp
      · simp [q]
    · rcases List.mem_cons.mp hy with rfl | hy
      · exact hb.1
      rcases List.mem_cons.mp hy with rfl | hy
      · exact hb.2
      · exact h2 y (List.mem_cons_of_mem _ hy)
theorem reads_ints {h : Heap} : ∀ {ns : List Int} {us : List Value}, Vals (ns.map V.int) us → ∃ as, ReadsAll h us (ns.map PyData.int) as
  | [], _, r => by cases r; exact ⟨[], .nil⟩
  | n :: ns, _, r => by
    cases r with
    | cons r1 r2 =>
      obtain ⟨t, rfl⟩ := r1
      obtain ⟨as, h2⟩ := reads_ints (h := h) r2
      exact ⟨_, .cons (.int n t) h2⟩
def rMaxT (K : PySem.W.Frag) : List V → Hp → VK → Prop := fun vs H Q => ∃ (a : Addr) (ns : List Int), vs = [V.ref a] ∧ SqT K H a (ns.map V.int) ∧ ns ≠ [] ∧ ∀ m, m ∈ ns → (∀ y, y ∈ ns → y ≤ m) → Q (.int m) H
def rMinT (K : PySem.W.Frag) : List V → Hp → VK → Prop := fun vs H Q => ∃ (a : Addr) (ns : List Int), vs = [V.ref a] ∧ SqT K H a (ns.map V.int) ∧ ns ≠ [] ∧ ∀ m, m ∈ ns → (∀ y, y ∈ ns → m ≤ y) → Q (.int m) H
section
variable {X : Cx}
theorem cr_maxT (hc : X.calm = true) (hu : X.A.units + 66 < cLine) : CallR X (.builtin "max") (rMaxT X.K) := by
  intro pins s σ H vs us Q I r h
  obtain ⟨a, ns, rfl, hs, hne, q⟩ := h
  obtain ⟨its, rv, hl, _⟩ := I.tuple hs
  rw [Vals.ref1 r]
  cases ns with
  | nil => exact absurd rfl hne
  | cons x xs =>
    refine PySem.W.max_tuple_datum (α := Int) (x := x) (xs := xs) (I.ok.hd hc) (show s.heap.IsTuple a its.toArray from hl) (reads_ints rv) (by show X.A.units + 1 + 0 < cLine; omega) fun i v h' tk hv hh hk => ?_
    obtain ⟨as, hr⟩ := hh
    obtain ⟨h1, h2⟩ := top_fold xs x
    generalize PySem.W.maxOf x xs = M at hr h1 h2
    cases hr
    exact ⟨.int M, H, I.kept (t' := tk) hk, ⟨_, rfl⟩, q M h1 h2⟩
theorem cr_minT (hc : X.calm = true) (hu : X.A.units + 66 < cLine) : CallR X (.builtin "min") (rMinT X.K) := by
  intro pins s σ H vs us Q I r h
  obtain ⟨a, ns, rfl, hs, hne, q⟩ := h
  obtain ⟨its, rv, hl, _⟩ := I.tuple hs
  rw [Vals.ref1 r]
  cases ns with
  | nil => exact absurd rfl hne
  | cons x xs =>
    refine PySem.W.min_tuple_datum (α := Int) (x := x) (xs := xs) (I.ok.hd hc) (show s.heap.IsTuple a its.toArray from hl) (reads_ints rv) (by show X.A.units + 1 + 0 < cLine; omega) fun i v h' tk hv hh hk => ?_
    obtain ⟨as, hr⟩ := hh
    obtain ⟨h1, h2⟩ := low_fold xs x
    generalize PySem.W.minOf x xs = M at hr h1 h2
    cases hr
    exact ⟨.int M, H, I.kept (t' := tk) hk, ⟨_, rfl⟩, q M h1 h2⟩
end
def aMaxT : R1A := fun us m Q => match us with
  | [.v (.tuple ds)] => (match intsOf ds with
    | some l => l ≠ [] ∧ ∀ x, x ∈ l → (∀ y, y ∈ l → y ≤ x) → Q (.v (.int x)) m
    | none => False)
  | _ => False
def aMinT : R1A := fun us m Q => match us with
  | [.v (.tuple ds)] => (match intsOf ds with
    | some l => l ≠ [] ∧ ∀ x, x ∈ l → (∀ y, y ∈ l → x ≤ y) → Q (.v (.int x)) m
    | none => False)
  | _ => False
theorem sim_maxT {K : PySem.W.Frag} : SimC K (rMaxT K) aMaxT := by
  intro F ro H m us vs Q Qa c iu h p
  unfold aMaxT at h
  split at h
  · obtain ⟨v, rfl, i1⟩ := iu1 iu
    split at h
    · rename_i l el
      cases i1 with
      | tup h1 h2 =>
        rw [intsOf_eq el] at h2
        rw [h2.ints] at h1
        exact ⟨_, l, rfl, .inl (rd_mono c.ex h1), h.1, fun x a b => p.god c (.int _) (h.2 x a b)⟩
    · exact h.elim
  · exact h.elim
theorem sim_minT {K : PySem.W.Frag} : SimC K (rMinT K) aMinT := by
  intro F ro H m us vs Q Qa c iu h p
  unfold aMinT at h
  split at h
  · obtain ⟨v, rfl, i1⟩ := iu1 iu
    split at h
    · rename_i l el
      cases i1 with
      | tup h1 h2 =>
        rw [intsOf_eq el] at h2
        rw [h2.ints] at h1
        exact ⟨_, l, rfl, .inl (rd_mono c.ex h1), h.1, fun x a b => p.god c (.int _) (h.2 x a b)⟩
    · exact h.elim
  · exact h.elim
end Z
/-! YK: a def as a value; the call of a local that holds a def with a star. -/
namespace Z
open PySem PySem.Spec PyProof.Rows L2 PySem.W
section
variable {X : Cx} {k j : Nat} {a : ASp} {x loc : Str} {e : Expr} {es : List Expr} {g : AA} {ff : AE} {p pos : Pos}
/-- x is a def of the module -/
def FnIn (K : PySem.W.Frag) (mg : Str → Option Value) (x : Str) : Prop := ∃ f, PySem.W.nsIn K mainGlobals x = some (some (.ref f)) ∧ mg x = some (.ref f)
def dFn (x : Str) : AE := fun _ m Q => Q (.o (.fn x)) m
theorem de_fn (fx : FnIn X.K X.mg x) (hg : Gl X x := by rfl) (hd : (x == ("__debug__" : Str)) = false := by decide) : DE X (.Name x pos) (dFn x) := by
  obtain ⟨f, h1, h2⟩ := fx
  refine pe_imp (pe_glob (v := .ref f) hg h2 rfl hd) fun σ H Q ⟨F, ro, E, m, Qa, c, ce, hf, p⟩ => ?_
  exact p F ro H (.o (.fn x)) (.ref f) m Gro.refl c ⟨f, rfl, h1⟩ hf
def dCallV (x : Str) (a : ASp) (tf : AE) (t : AA) : AE := fun E m Q => tf E m fun u m1 => match u with
  | .o (.fn y) => y = x ∧ t E m1 fun us m2 => a us m2 Q
  | _ => False
theorem de_calV (fx : FnIn X.K X.mg x) (c : CalS X.prog X.w X.K X.mg X.base k x a) (hr : Room j X.A) (hgd : X.A.guards = some []) (hf : DE X (.Name loc p) ff) (ha : DA X (e :: es) g) (hk : k ≤ j := by decide)
    (he : starEach (e :: es) X.env = (false, eval e X.env) :: starEach es X.env := by rfl) (hpl : (backTo pos (starEach es X.env)).any (·.1) = false := by rfl) :
    DE X (.Call (.Name loc p) (e :: es) [] pos) (dCallV x a ff g) := by
  obtain ⟨q, F, hm, kp⟩ := c.ex
  obtain ⟨f, n1, n2⟩ := fx
  rw [hm] at n2
  cases n2
  refine ⟨fun pins s σ H Q I h => ?_⟩
  obtain ⟨F0, ro, E, m, Qa, cm, ce, hf0, p⟩ := h
  refine wpAny_Call_Name_kw (thn (hf.run pins s σ H (fun v H1 => v = V.ref q ∧ cA X.K g σ H1 fun vs H2 => cSp X.K a vs H2 Q E0) I ⟨F0, ro, E, m, _, cm, ce, hf0, fun F1 ro1 H1 u v m1 g1 c1 i1 h1 => ?_⟩) fun v s1 ⟨y, H1, I1, ry, ey, hA⟩ => ?_)
  · revert h1
    dsimp only
    split
    · rintro ⟨rfl, hq⟩
      obtain ⟨f', rfl, h3⟩ := i1
      rw [n1] at h3
      cases h3
      exact ⟨rfl, F1, ro1, E, m1, _, c1, ce.mono g1, hq, fun F2 ro2 H2 us vs m2 g2 c2 i2 h2 => ⟨F2, ro2, m2, us, Qa, c2, i2, h2, (p.at g1).at g2⟩⟩
    · exact fun h => h.elim
  · subst ey
    cases ry
    refine PySem.W.callWith_K (h₀ := X.base) I1.ok.mod.kin kp (thn (ha.run pos pins s1 σ H1 (fun vs H2 => cSp X.K a vs H2 Q E0) I1 hA) fun us s2 ⟨vs, H2, I2, r, q1⟩ => ⟨I2.kIn, ?_⟩) he hpl
    exact run_fnS F (hr.mono hk) hgd I2 r q1
end
end Z
/-! YL: a place in a tuple of targets. -/
namespace Z
open PySem PySem.Spec PyProof.Rows L2
section
variable {X : Cx} {o i : Expr} {fo fi : AE} {p2 : Pos}
/-- the place o[i], o a cell -/
def gIx (to ti : AE) : AG := fun u E m K => to E m fun o m1 => ti E m1 fun i m2 => match u, o, i with
  | .v d, .r k, .v (.int i) => (match m2[k]? with
    | some (.lst l) => (match ixN l.length i with
      | some j => K E (m2.set k (.lst (l.set j d)))
      | none => False)
    | _ => False)
  | _, _, _ => False
theorem dg_ix (ho : DE X o fo) (hi : DE X i fi) (ha : ∀ v, assign (.Subscript o i p2) X.env v = (do
      let ov ← holding [v] (eval o X.env)
      let iv ← holding [v, ov] (eval i X.env)
      standAt p2
      holding [v, ov, iv] (setItem ov iv v)
      release [v, ov, iv] []) := by intro _; rfl) : DG X (.Subscript o i p2) (gIx fo fi) :=
  pg_imp (pg_sub ho hi set_list ha) fun v σ H Q ⟨F, ro, E, m, u, Qa, c, ce, iu, hg, p⟩ =>
    ⟨F, ro, E, m, _, c, ce, hg, fun F2 ro2 H2 o w m2 g2 c2 i2 h2 => ⟨F2, ro2, E, m2, _, c2, ce.mono g2, h2, fun F3 ro3 H3 i x m3 g3 c3 i3 h3 => by
      revert h3
      split
      · split
        · rename_i l el
          split
          · rename_i j ej
            intro h3
            obtain ⟨a, xs, rfl, q1, q2, hd⟩ := cell_of c3 (i2.mono g3) el
            cases i3
            have hv := iu.mono (g2.trans g3)
            obtain ⟨c4, g4⟩ := c3.cellSet q1 el (hd.set hv j)
            exact ⟨a, xs, _, j, rfl, rfl, q2, by rw [hd.length]; exact ej, p _ _ _ σ E _ (g2.trans (g3.trans g4)) c4 (ce.mono (g2.trans (g3.trans g4))) h3⟩
          · exact fun h => h.elim
        · exact fun h => h.elim
      · exact fun h => h.elim⟩⟩
end
end Z
/-! YM: dict displays of two computed keys, dict(list of pairs), tuples of ints sorted. -/
namespace Z
open PySem PySem.Spec PyProof.Rows L2
section
variable {K : PySem.W.Frag} {F F2 H H2 : Hp} {ro ro2 : List Addr} {m m2 : Sto} {Qa : QA} {Q : VK} {D : Addr}
/-- an object of ours becomes known -/
theorem ConM.ours (c : ConM K F ro H m) (hF : F D = none) (hr : D ∉ ro) (o : HO) : ConM K (upd F D o) ro (upd H D o) m := by
  have e := same_upd (o := o) hF
  refine ⟨same_upd2 c.ex, c.len, c.nd, fun k a x h1 h2 => ?_⟩
  have ne : a ≠ D := fun z => hr (z ▸ List.mem_of_getElem? h1)
  exact (c.cell k a x h1 h2).grow e (fun z => by rw [upd_ne ne]; exact z) (upd_ne ne)
/-- the end of a display: the dict becomes known -/
theorem disp_end (p : Post K F ro H Qa Q) (cm : ConM K F ro H m) (hD : H D = none) (g : Gro F ro (upd H D (.dK [])) F2 ro2 H2) (c : ConM K F2 ro2 H2 m2) {kvs : List (Key × V)} {l : List (PyData × PyData)} (hk : IsDk K F2 kvs l) (q : Qa (.v (.dict l)) m2) :
    H2 D = some (.dK []) ∧ Q (.ref D) (upd H2 D (.dK kvs)) := by
  obtain ⟨hF, hr⟩ := cm.new hD
  obtain ⟨q1, q2⟩ := g.fr D _ upd_same hr
  obtain ⟨t, et, nt⟩ := g.more
  have hr2 : D ∉ ro2 := fun hm => by
    rw [et] at hm
    rcases List.mem_append.mp hm with z | z
    · exact hr z
    · have := nt D z
      rw [upd_same] at this
      cases this
  have hF2 : F2 D = none := q2.trans hF
  have e2 := same_upd (o := HO.dK kvs) hF2
  have c3 := c.ours hF2 hr2 (.dK kvs)
  refine ⟨q1, p _ ro2 _ (.v (.dict l)) (.ref D) m2 ⟨g.ex.trans e2, ⟨t, et, fun a ha => ?_⟩, fun a x z1 z2 => ?_, fun a z1 => ?_⟩ c3 (IsD.dct upd_same (IsDk.mono e2 hk)) q⟩
  · have h1 := nt a ha
    have ne : a ≠ D := fun z => by rw [z, upd_same] at h1; cases h1
    rw [upd_ne ne] at h1
    exact h1
  · have ne : a ≠ D := ne_of_none z1 hD
    obtain ⟨w1, w2⟩ := g.fr a x (by rw [upd_ne ne]; exact z1) z2
    exact ⟨by rw [upd_ne ne]; exact w1, by rw [upd_ne ne]; exact w2⟩
  · by_cases ne : a = D
    · rw [ne, upd_same]; simp
    · rw [upd_ne ne]
      exact g.st a (by rw [upd_ne ne]; exact z1)
theorem gro_loose (cm : ConM K F ro H m) (hD : H D = none) (o : HO) : Gro F ro H F ro (upd H D o) := ⟨Same.refl _, ⟨[], by simp, fun _ h => nomatch h⟩, fun a x q1 q2 => ⟨by rw [upd_ne (ne_of_none q1 hD)]; exact q1, rfl⟩, fun a q1 => by
  by_cases z : a = D
  · rw [z, upd_same]; simp
  · rw [upd_ne z]; exact q1⟩
end
/-- {k: v, k2: v2} -/
def dDct2 (ta tb tc td : AE) : AE := fun E m Q => ta E m fun a m1 => tb E m1 fun b m2 => tc E m2 fun c m3 => td E m3 fun d m4 => match a, b, c, d with
  | .v x, .v y, .v z, .v w => (match keyOf x, keyOf z with
    | some _, some _ => Q (.v (.dict (putD [(x, y)] z w))) m4
    | _, _ => False)
  | _, _, _, _ => False
section
variable {X : Cx} {pos : Pos}
theorem de_dct2 {e1 e2 e3 e4 : Expr} {f1 f2 f3 f4 : AE} (h1 : DE X e1 f1) (h2 : DE X e2 f2) (h3 : DE X e3 f3) (h4 : DE X e4 f4) : DE X (.Dict [some e1, some e3] [e2, e4] pos) (dDct2 f1 f2 f3 f4) :=
  pe_imp (pe_disp (pps_cons h1 h2 (pps_cons h3 h4 pps_nil)) rfl rfl (by simp) (by simp)) fun σ H Q ⟨F, ro, E, m, Qa, cm, ce, hf, p⟩ => fun D hD => by
    obtain ⟨hFD, hrD⟩ := cm.new hD
    have gB := gro_loose cm hD (.dK [])
    refine ⟨F, ro, E, m, _, cm.loose hFD hrD _, ce, hf, fun F1 ro1 H1 a v m1 g1 c1 i1 q1 => ⟨F1, ro1, E, m1, _, c1, ce.mono g1, q1, fun F2 ro2 H2 b w m2 g2 c2 i2 q2 => ⟨F2, ro2, E, m2, _, c2, ce.mono (g1.trans g2), q2, fun F3 ro3 H3 c x m3 g3 c3 i3 q3 => ⟨F3, ro3, E, m3, _, c3, ce.mono (g1.trans (g2.trans g3)), q3, fun F4 ro4 H4 d y m4 g4 c4 i4 q4 => ?_⟩⟩⟩⟩
    revert q4
    split
    · rename_i ka vb kc vd
      split
      · rename_i j k ej ek
        intro q4
        obtain ⟨u1, u2⟩ := key_of (i1.mono (g2.trans (g3.trans g4))) ej
        obtain ⟨u3, u4⟩ := key_of (i3.mono g4) ek
        have iw : IsD X.K F4 w vb := i2.mono (g3.trans g4)
        have iy : IsD X.K F4 y vd := i4
        have hk : IsDk X.K F4 (putK [(j, w)] k y) (putD [(ka, vb)] kc vd) := by
          rw [u2, u4]
          exact IsDk.put iy (.cons iw .nil)
        obtain ⟨z1, z2⟩ := disp_end p cm hD (g1.trans (g2.trans (g3.trans g4))) c4 hk q4
        exact ⟨z1, [(j, w), (k, y)], by rw [u1, u3]; rfl, by simp, z2⟩
      · exact fun h => h.elim
    · exact fun h => h.elim
end
/-! ### dict(list of pairs) -/
def putP (acc : List (PyData × PyData)) : PyData → List (PyData × PyData)
  | .tuple [k, v] => putD acc k v
  | _ => acc
def pairQ : PyData → Bool
  | .tuple [k, _] => (keyOf k).isSome
  | _ => false
def mergeD (l : List PyData) : List (PyData × PyData) := l.foldl putP []
def pairsD (l : List PyData) : Bool := l.all pairQ
def nwD (mu : Bool) (l : List (PyData × PyData)) (m : Sto) (Q : QA) : Prop := match mu with
  | true => Q (.r m.length) (m ++ [.dct l])
  | false => Q (.v (.dict l)) m
theorem Post.nwD {K : PySem.W.Frag} {F H : Hp} {ro : List Addr} {m : Sto} {Qa : QA} {Q : VK} (p : Post K F ro H Qa Q) (c : ConM K F ro H m) (mu : Bool) {xs : List (Key × V)} {l : List (PyData × PyData)} (h : IsDk K F xs l) (q : Z.nwD mu l m Qa) : ∀ b, H b = none → Q (.ref b) (upd H b (.dK xs)) := by
  cases mu with
  | false => exact p.newD c h q
  | true =>
    intro b hb
    obtain ⟨c1, g1⟩ := c.dctNew hb h
    exact p F (ro ++ [b]) _ (.r m.length) (.ref b) _ g1 c1 ⟨b, by rw [← c.len, List.getElem?_append_right (Nat.le_refl _)]; simp, rfl⟩ q
def aDictP (mu : Bool) : R1A := fun us m Q => match us with
  | [u] => (match asL m u with
    | some l => pairsD l = true ∧ nwD mu (mergeD l) m Q
    | none => False)
  | _ => False
def rDictP (K : PySem.W.Frag) : List V → Hp → VK → Prop := fun xs H Q => ∃ (a : Addr) (ps : List Addr) (kvs : List (Key × V)), xs = [.ref a] ∧ SqL K H a (ps.map V.ref) ∧ Paired (fun p kv => SqT K H p [kV kv.1, kv.2]) ps kvs ∧
    ∀ p, H p = none → Q (.ref p) (upd H p (.dK (mergeK [] kvs)))
theorem pairQ_is {d : PyData} (h : pairQ d = true) : ∃ k v kk, d = .tuple [k, v] ∧ keyOf k = some kk := by
  unfold pairQ at h
  split at h
  · rename_i k v
    obtain ⟨kk, ek⟩ := Option.isSome_iff_exists.mp h
    exact ⟨k, v, kk, rfl, ek⟩
  · cases h
theorem pairs_is {K : PySem.W.Frag} {F H : Hp} (ex : Same F H) : ∀ {xs : List V} {l : List PyData} {acc : List (Key × V)} {accD : List (PyData × PyData)}, IsDs K F xs l → pairsD l = true → IsDk K F acc accD →
    ∃ (ps : List Addr) (kvs : List (Key × V)), xs = ps.map V.ref ∧ Paired (fun p kv => SqT K H p [kV kv.1, kv.2]) ps kvs ∧ IsDk K F (mergeK acc kvs) (l.foldl putP accD)
  | _, _, acc, accD, .nil, _, ha => ⟨[], [], rfl, .nil, ha⟩
  | _, _, acc, accD, .cons (d := d) (ds := ds) h t, hp, ha => by
    unfold pairsD at hp
    rw [List.all_cons, Bool.and_eq_true] at hp
    obtain ⟨h1, h2⟩ := hp
    obtain ⟨k, v, kk, rfl, ek⟩ := pairQ_is h1
    cases h with
    | tup r hs =>
      rename_i a zs
      cases hs with
      | cons i1 hs =>
        cases hs with
        | cons i2 hs =>
          cases hs
          obtain ⟨e1, e2⟩ := key_of i1 ek
          subst e1 e2
          obtain ⟨ps, kvs, q1, q2, q3⟩ := pairs_is ex t h2 (IsDk.put (k := kk) i2 ha)
          exact ⟨a :: ps, (kk, _) :: kvs, by rw [q1]; rfl, .cons (.inl (rd_mono ex r)) q2, q3⟩
theorem sim_dictP {K : PySem.W.Frag} (mu : Bool) : SimC K (rDictP K) (aDictP mu) := by
  intro F ro H m us vs Q Qa c iu h p
  unfold aDictP at h
  split at h
  · rename_i u
    obtain ⟨v, rfl, i1⟩ := iu1 iu
    split at h
    · rename_i l el
      obtain ⟨a, xs, rfl, h1, hd⟩ := asL_own c i1 el
      cases u with
      | v d =>
        cases d <;> simp [asL] at el
        subst el
        cases i1 with
        | lst w1 w2 =>
          obtain ⟨ps, kvs, q1, q2, q3⟩ := pairs_is c.ex w2 h.1 .nil
          exact ⟨_, ps, kvs, rfl, by rw [← q1]; exact .inl (.inl (c.ex _ _ w1)), q2, p.nwD c mu q3 h.2⟩
      | r k =>
        obtain ⟨ps, kvs, q1, q2, q3⟩ := pairs_is c.ex hd h.1 .nil
        exact ⟨_, ps, kvs, rfl, by rw [← q1]; exact .inl (.inl h1), q2, p.nwD c mu q3 h.2⟩
      | s ns => cases el
      | o t => cases el
    · exact h.elim
  · exact h.elim
/-! ### tuples of ints, by order -/
theorem dataLt_tups (xs ys : List Int) : PySem.W.dataLt (.tuple (xs.map .int)) (.tuple (ys.map .int)) = ltI xs ys := by
  rw [← lex_ints]
  rfl
end Z
/-! YN: enumerate over a tuple. -/
namespace Z
open PySem PySem.Spec PyProof.Rows L2
set_option maxHeartbeats 4000000 in
theorem meets_enumT (a : Addr) (items : Array Value) :
    Meets (Builtin.«enumerate.__new__» ⟨[.type "enumerate", .ref a], []⟩) (fun _ R s => s.heap.IsTuple a items ∧
      R (.ok (.ret (.ref (s.heap.push { cls := .type "tuple_iterator", data := .fields #[.ref a, .int 0 0] }).objs.size)))
        { s with heap := (s.heap.push { cls := .type "tuple_iterator", data := .fields #[.ref a, .int 0 0] }).push { cls := .type "enumerate", data := .fields #[.none, .bool false, .ref s.heap.objs.size, rawInt 0, .none, .none] } }) :=
  .of_wp fun prog w A R s h => by
    obtain ⟨hp, g, d, tk, os⟩ := s; obtain ⟨h1, h⟩ := h
    have hsub := sub_enumerate
    have q1 : ∀ {A' : Around} {E : Value → Shared → Prop} {Q : Value → Shared → Prop}, Q (.ref hp.objs.size) ⟨hp.push { cls := .type "tuple_iterator", data := .fields #[.ref a, .int 0 0] }, g, d, tk, os⟩ → wpAny (model prog w) A' (pyIter (.ref a)) Q E ⟨hp, g, d, tk, os⟩ :=
      fun q => wpAny_pyIter_tuple h1 q
    wp_walk using q1
    refine wpAny_stack_any fun st => wpAny_pure ?_
    split
    · rename_i c _ _ _ _ _
      cases (c == Value.type "enumerate")
      · wp_walk using q1
        exact ⟨_, rfl, h⟩
      · wp_walk using q1
        exact ⟨_, rfl, h⟩
    · wp_walk using q1
      exact ⟨_, rfl, h⟩
theorem call_enumT {prog : Program} {w : World} {A : Around} {E : Value → Shared → Prop} {s : Shared} {a : Addr} {items : Array Value} {Q : Value → Shared → Prop} (hT : s.heap.IsTuple a items)
    (h : ∀ h', IsEnum h' (s.heap.objs.size + 1) s.heap.objs.size 0 .none → h'.IsTupleIter s.heap.objs.size a 0 → h'.objs.size = s.heap.objs.size + 2 →
      (∀ b o, s.heap.get? b = some o → h'.get? b = some o) → Q (.ref (s.heap.objs.size + 1)) { s with heap := h' }) :
    wpAny (model prog w) A (call (.type "enumerate") [.ref a]) Q E s := by
  refine callType_new F.called_enumerate (by decide) (F.typeCall_enumerate_1 _) (F.newCall_enumerate_1 _) (fun obj => F.args_object_init_2 obj _) F.entry_enumerate_new
    (meets_enumT a items) ⟨hT, ?_⟩
  have hz : (s.heap.push { cls := .type "tuple_iterator", data := .fields #[.ref a, .int 0 0] }).objs.size = s.heap.objs.size + 1 := Heap.size_push ..
  show _ ∧ _
  rw [hz]
  have he : IsEnum ((s.heap.push { cls := .type "tuple_iterator", data := .fields #[.ref a, .int 0 0] }).push
      { cls := .type "enumerate", data := .fields #[.none, .bool false, .ref s.heap.objs.size, rawInt 0, .none, .none] }) (s.heap.objs.size + 1) s.heap.objs.size 0 .none := by
    have := Heap.get?_push_size (s.heap.push { cls := .type "tuple_iterator", data := .fields #[.ref a, .int 0 0] })
      (o := { cls := .type "enumerate", data := .fields #[.none, .bool false, .ref s.heap.objs.size, rawInt 0, .none, .none] }) rfl
    rw [hz] at this; exact this
  refine ⟨⟨_, he, rfl⟩, h _ he ⟨_, Heap.get?_push_of_some _ (Heap.get?_push_size _ rfl), rfl, rfl⟩ (by rw [Heap.size_push, hz]) fun b o x => Heap.get?_push_of_some _ (Heap.get?_push_of_some _ x)⟩
/-- the tuple at a, each item in a new pair -/
def IteT (K : PySem.W.Frag) (a : Addr) : It :=
  ⟨fun i H => ∃ (xs : List V) (x : V), SqT K H a xs ∧ xs[i]? = some x, fun i H v H' => ∃ T x, v = .ref T ∧ H T = none ∧ H' = upd H T (.tup [.int (i : Nat), x]) ∧ ∀ xs, SqT K H a xs → xs[i]? = some x, fun i H => ∃ xs : List V, SqT K H a xs ∧ xs.length ≤ i⟩
theorem turn_enumT {P : Program} {w : World} {K : PySem.W.Frag} {elts : List Expr} {kk : Nat} {tpos : Pos} (a e it : Addr) :
    Turn P w K (.Tuple elts kk tpos) (IteT K a) [e, it] e (fun i h => (∃ old, IsEnum h e it ((i : Nat) : Int) old) ∧ h.IsTupleIter it a i ∧ e ≠ it ∧ a ≠ e ∧ a ≠ it) where
  mem := by simp
  obj := fun i h st b hb => by
    obtain ⟨⟨old, he⟩, ⟨o, ho, hc, hd⟩, _⟩ := st
    have e' : b = e ∨ b = it := by simpa using hb
    rcases e' with z | z
    · rw [z]; exact ⟨_, he, fun v q => nomatch q⟩
    · rw [z]; exact ⟨o, ho, fun v q => by rw [hd] at q; cases q⟩
  keep := fun i h h' st k => let ⟨⟨old, he⟩, hi, hne⟩ := st; ⟨⟨old, k e (by simp) _ he⟩, hi.at fun o q => k it (by simp) o q, hne⟩
  item := by
    intro X hP hw hK hc i pins s σ H E I hf st hg
    subst hP hw hK
    obtain ⟨⟨old, he⟩, hit, hne, hae, hai⟩ := st
    obtain ⟨xs, x, hq, hx⟩ := hg
    obtain ⟨its, rv, p, hz⟩ := I.tuple hq
    obtain ⟨u, hu, ru⟩ := rv.get hx
    have hel : e < s.heap.objs.size := Heap.lt_size he
    have hil : it < s.heap.objs.size := by obtain ⟨_, q, _⟩ := hit; exact Heap.lt_size q
    have hui : its.toArray[i]? = some u := by simpa using hu
    have hlt : i < its.toArray.size := (Array.getElem?_eq_some_iff.mp hui).1
    have D := Draws.tuple (prog := X.prog) (w := X.w) (A := X.A.in1) (I.ok.hd hc) it a hai its.toArray
    refine wpAny_pyNext_enum_itemD D he ⟨hit, p⟩ hlt hne (by simp [hne, Ne.symm hae]) fun y h' tk hy ho hst' hT hsz hk => ?_
    rw [hui] at hy
    cases hy
    obtain ⟨hit', p'⟩ := hst'
    refine ⟨_, rfl, wpAny_letOwnedTupleGo_enum (s := { s with heap := h', toks := tk + 1 }) ho fun h'' he' sb => ?_⟩
    have hT2 : h''.get? s.heap.objs.size = some { cls := .type "tuple", data := .seq #[.int i tk, u] } := (sb.2 _ (Nat.ne_of_gt hel)).trans hT
    have new : ObjOk X.prog X.w (upd H s.heap.objs.size (.tup [.int (i : Nat), x])) h'' s.heap.objs.size (.tup [.int (i : Nat), x]) :=
      ⟨by show 2 ≤ sizeLine; decide, [.int i tk, u], .cons ⟨_, rfl⟩ (.cons ru .nil), ⟨_, hT2, rfl, _, rfl⟩⟩
    have I1 : Inv X pins σ (upd H s.heap.objs.size (.tup [.int (i : Nat), x])) { s with heap := h'', toks := tk + 1 } :=
      I.turnedNew (ch := [e, it]) (fun b ob hb q => (sb.2 b (fun z => hb (by simp [z]))).trans (hk b ob (fun z => hb (by simp [z])) (fun z => hb (by simp [z])) q)) hf (Nat.le_refl _) new
    refine ⟨.ref s.heap.objs.size, _, I1, rfl, ⟨_, x, rfl, I.hok.fresh (Nat.le_refl _), rfl, fun ys hy => by rw [I.tuple_inj hy hq]; exact hx⟩, ⟨⟨u, ?_⟩, hit'.at fun o q => (sb.2 it (Ne.symm hne)).trans q, hne, hae, hai⟩, fun b hb => ?_⟩
    · have e1 : ((i + 1 : Nat) : Int) = (i : Int) + 1 := by omega
      rw [e1]; exact he'
    · have hb' : b < s.heap.objs.size := by
        have e' : b = e ∨ b = it := by simpa using hb
        rcases e' with z | z
        · rw [z]; exact hel
        · rw [z]; exact hil
      rw [upd_ne (Nat.ne_of_lt hb')]
      exact (hf b hb).1
  done := by
    intro X hP hw hK hc i pins s σ H E I hf st hg
    subst hP hw hK
    obtain ⟨⟨old, he⟩, hit, hne, hae, hai⟩ := st
    obtain ⟨xs, hq, hx⟩ := hg
    obtain ⟨its, rv, p, hz⟩ := I.tuple hq
    obtain ⟨f0, f1, f2, f3, f4, f5⟩ := hf it (by simp)
    have hl := rv.length
    have D := Draws.tuple (prog := X.prog) (w := X.w) (A := X.A.in1) (I.ok.hd hc) it a hai its.toArray
    have hsz : its.toArray.size ≤ i := by simp; omega
    unfold pyNext
    have hT : s.TypeIs (.ref e) "enumerate" := ⟨_, he, rfl⟩
    refine wpAny_bind (wpAny_attempt (wpAny_callSpecial?_slot (name := Str.ofString "__next__") hT F.slot_enumerate_next
      (wpAny_call_entry F.slot_enumerate_next hT F.entry_enumerate_next ?_ (F.args_enumerate_next_1 _))))
    show wpAny _ _ (field (.ref e) 2 >>= _) _ _ _
    refine wpAny_bind (wpAny_field he rfl (x := .ref it) rfl ?_)
    refine wpAny_bind (wpAny_nextOf_tuple_end (I.ok.hd hc) hit p (Array.getElem?_eq_none hsz) fun h' x he' hx' => ?_)
    obtain ⟨o, ho, hco⟩ := hx'
    refine wpAny_bind (wpAny_isInstance (T := "StopIteration") (b := true) ⟨o, ho, hco⟩ isSubtype_stop ?_)
    exact wpAny_pure ⟨rfl, I.turned (t' := s.toks) (fun b o hb q => he' b o hb q) f0 f1 f3 f4 f5⟩
  self := fun A i s Q E st h => let ⟨⟨_, he⟩, _⟩ := st; wpAny_pyIter_enum he h
def iEnumT (K : PySem.W.Frag) (ta : TA) : TI := fun σ H R => ta σ H fun vs H1 => ∃ a xs, vs = [.ref a] ∧ SqT K H1 a xs ∧ R (IteT K a) H1
theorem pi_enumT {X : Cx} {e : Expr} {ta : TA} {p pos tpos : Pos} {elts : List Expr} {kk : Nat} (hg : Gl X "enumerate") (hm : X.mg "enumerate" = none) (ha : PA X [e] ta) (hs : starEach [e] X.env = [(false, eval e X.env)] := by rfl) :
    PI X (.Tuple elts kk tpos) (.Call (.Name "enumerate" p) [e] [] pos) (iEnumT X.K ta) := by
  refine ⟨fun pins s σ H R I h => ?_⟩
  refine Call_ (ld_blt I hg hm boot_enumerate (PyProof.Rows.callWith_type1 (thn (ha.run pos pins s σ H _ I h) fun us s1 ⟨vs, H1, I1, r1, q1⟩ => ?_) hs rfl))
  obtain ⟨a, xs, ex, hq, q⟩ := q1
  subst ex
  cases r1 with
  | cons r rr =>
    cases rr
    cases r
    obtain ⟨its, rv, p', hz⟩ := I1.tuple hq
    have hal : a < s1.heap.objs.size := by obtain ⟨_, q, _⟩ := p'; exact Heap.lt_size q
    refine call_enumT p' fun h' he hit hsz hk => wpAny_pyIter_enum he ?_
    have I2 : Inv X pins σ H1 { s1 with heap := h' } := I1.kept (t' := s1.toks) hk
    refine ⟨s1.heap.objs.size + 1, [s1.heap.objs.size + 1, s1.heap.objs.size], _, _, H1, rfl, I2, turn_enumT a (s1.heap.objs.size + 1) s1.heap.objs.size, ⟨⟨.none, he⟩, hit, Nat.succ_ne_self _, Nat.ne_of_lt (Nat.lt_succ_of_lt hal), Nat.ne_of_lt hal⟩, fun b hb => ?_, q⟩
    have e' : b = s1.heap.objs.size + 1 ∨ b = s1.heap.objs.size := by simpa using hb
    have hle : s1.heap.objs.size ≤ b := by
      rcases e' with z | z
      · rw [z]; exact Nat.le_add_right _ _
      · rw [z]; exact Nat.le_refl _
    exact I1.fpOk hle (I1.hok.fresh hle)
def sEnumT (t : AA) : AI := fun E m R => t E m fun us m1 => match us with
  | [.v (.tuple l)] => R (enumU l) (fun _ => True) m1
  | _ => False
section
variable {X : Cx}
theorem di_enumT {e : Expr} {g : AA} {p pos tpos : Pos} {elts : List Expr} {kk : Nat} (hm : X.mg "enumerate" = none) (ha : DA X [e] g) (hg : Gl X "enumerate" := by rfl) (hs : starEach [e] X.env = [(false, eval e X.env)] := by rfl) :
    DI X (.Tuple elts kk tpos) (.Call (.Name "enumerate" p) [e] [] pos) (sEnumT g) :=
  pi_imp (pi_enumT hg hm ha hs) fun σ H R ⟨F, ro, E, m, Ra, c, ce, hf, p⟩ =>
    ⟨F, ro, E, m, _, c, ce, hf, fun F1 ro1 H1 us vs m1 g1 c1 i1 h1 => by
      revert h1
      split
      · rename_i l
        intro h1
        obtain ⟨v, rfl, i2⟩ := iu1 i1
        cases i2 with
        | tup r0 d0 =>
          rename_i a xs
          have at_ : ∀ {F' : Hp} {ro' : List Addr} {H' : Hp} {m' : Sto}, Gro F1 ro1 H1 F' ro' H' → ConM X.K F' ro' H' m' → SqT X.K H' a xs ∧ IsDs X.K F' xs l := fun g c' => ⟨.inl (rd_mono c'.ex (rd_mono g.ex r0)), IsDs.mono g.ex d0⟩
          refine ⟨a, xs, rfl, .inl (rd_mono c1.ex r0), p F1 ro1 H1 _ _ m1 _ g1 c1 ?_ h1⟩
          have hlen : (enumU l).length = l.length := by simp [enumU]
          refine ⟨fun i F' ro' H' m' g c' gd hi => ?_, fun F' ro' H' m' g c' gd => ?_, fun i w F' ro' H' m' x H2 g c' gd hw hy => ?_⟩
          · obtain ⟨r, d⟩ := at_ g c'
            rw [hlen] at hi
            obtain ⟨v, e1, _⟩ := d.get (List.getElem?_eq_getElem hi)
            exact ⟨xs, v, r, e1⟩
          · obtain ⟨r, d⟩ := at_ g c'
            exact ⟨xs, r, by rw [d.length, hlen]; exact Nat.le_refl _⟩
          · obtain ⟨r, d⟩ := at_ g c'
            obtain ⟨T, y, rfl, hT, rfl, hy⟩ := hy
            unfold enumU at hw
            rw [List.getElem?_mapIdx] at hw
            obtain ⟨dd, e1, e2⟩ := Option.map_eq_some_iff.mp hw
            subst e2
            obtain ⟨v, e3, e4⟩ := d.get e1
            have ex := hy xs r
            rw [e3] at ex
            cases ex
            obtain ⟨F2, c2, g2, i2⟩ := pair_known c' hT (.cons (.int _) (.cons e4 .nil))
            exact ⟨F2, c2, g2, i2⟩
      · exact fun h => h.elim⟩
end
end Z
/-! YO: defs with a star that may raise; calls of a value that is one of some defs. -/
namespace Z
open PySem PySem.Spec PyProof.Rows L2 StX
section
variable {P : Program} {w : World} {K : PySem.W.Frag} {mg : Str → Option Value} {base : Heap}
theorem PostQ.at {F F1 H H1 : Hp} {ro ro1 : List Addr} {Xq : XQ} {E : XK} (p : PostQ K F ro H Xq E) (g : Gro F ro H F1 ro1 H1) : PostQ K F1 ro1 H1 Xq E := fun F' ro' H' m' nm C d pl g' => p F' ro' H' m' nm C d pl (g.trans g')
/-- a def that may raise, told of plain arguments -/
structure FnXP (P : Program) (w : World) (K : PySem.W.Frag) (mg : Str → Option Value) (base : Heap) (k : Nat) (f : Addr) (a : AXp) : Prop where
  run : ∀ (A : Around) (outer : List Env) (s : Shared) (H : Hp) (us : List Value) (vs : List V) (Q : VK) (E : XK), Room k A → A.guards = some [] → Env0 P w K mg base A outer s H → Vals vs us → cSpX K a vs H Q E →
    codeAny (model P w) A (.call (.ref f) ⟨us, []⟩) (CR (L2N.CX P w) outer P w H s Q E) s
/-- a def by its name, that may raise, of plain arguments -/
structure CalF (P : Program) (w : World) (K : PySem.W.Frag) (mg : Str → Option Value) (base : Heap) (k : Nat) (x : Str) (a : AXp) : Prop where
  ex : ∃ f, FnXP P w K mg base k f a ∧ mg x = some (.ref f) ∧ PySem.W.keepIn K (.ref f) = true
theorem CalX.f {k : Nat} {x : Str} {ps : List Str} {a : AXp} (c : CalX P w K mg base k x ps a) : CalF P w K mg base k x a := by
  obtain ⟨f, fd, F, hm, kp, hb⟩ := c.ex
  refine ⟨f, ⟨fun A outer s H us vs Q E hr hg e0 r hsp => ?_⟩, hm, kp⟩
  have hl : us.length = ps.length := by
    obtain ⟨F', ro', m', us', Qa', Xq', _, iu, ha', _⟩ := hsp
    rw [← r.length, ← iu.length]
    exact F.len _ _ _ _ ha'
  have hb' := hb s us (e0.mod.kin.keeps fun b o e => (e0.bs b o e).1) (by simpa using hl)
  rw [List.append_nil] at hb'
  exact F.run A outer s H ⟨us, []⟩ us vs Q E hr hg e0 hb' r hsp
theorem cx_laid {outer : List Env} {H : Hp} {s s2 s' : Shared} {E : XK} {u : Value} {o : Obj} {xs : List V} (nH : H s.heap.objs.size = none) (h2 : s2.heap = s.heap.push o) (o2 : s2.os = s.os)
    (c : L2N.CX P w outer (upd H s.heap.objs.size (.tup xs)) s2 E u s') : L2N.CX P w outer H s E u s' := by
  obtain ⟨a, B, H', cls, d, e1, fl, hok, ub, na, os, ag, hE⟩ := c
  rw [h2] at ub
  have ne : ∀ {b : Addr} {o : Obj}, s.heap.get? b = some o → b ≠ s.heap.objs.size := fun {b o} e => Nat.ne_of_lt (Heap.lt_size e)
  have ps : ∀ {b : Addr} {o' : Obj}, s.heap.get? b = some o' → (s.heap.push o).get? b = some o' := fun {b o'} e => Heap.get?_push_of_some _ e
  refine ⟨a, B, H', cls, d, e1, fl, hok, ⟨fun b o' e n => ub.keep b o' (ps e) ((upd_ne (ne e)).trans n), fun b o' e => ub.slot b o' (ps e), fun b o' e n => ub.free b o' (ps e) ((upd_ne (ne e)).trans n), fun b o' e => ub.there b o' (ps e),
    fun b ys e => ub.tups b ys ((upd_ne (ne_of_none e nH)).trans e), fun b o' ys e => ub.frzs b o' ys ((upd_ne (ne_of_none e nH)).trans e), fun b ys e => ub.tbls b ys ((upd_ne (ne_of_none e nH)).trans e)⟩, na, os.trans o2, ag, hE⟩
theorem CalF.mkS {k : Nat} {x : Str} {st : Stmt} {ps : List Str} {pv : Str} {a : AXp} {N : List Str} {g : XS} (d : DfnS K mg x st ps pv) (S : FnScope N (ps ++ [pv]) (defScope st))
    (body : ∀ (f : Addr) (cdv : Value) (A : Around) (outer : List Env) (s : Shared) (H : Hp) (E : XK), Room k (A.deeper (envOfC x (defScope st) s.heap.objs.size f cdv)) → (A.deeper (envOfC x (defScope st) s.heap.objs.size f cdv)).guards = some [] →
      L2N.Takes (cxOf (L2N.CX P w) P w K mg base N x (defScope st) f cdv A outer s H E) (leaves E) → PassesOwn (model P w) (cxOf (L2N.CX P w) P w K mg base N x (defScope st) f cdv A outer s H E).A (cxOf (L2N.CX P w) P w K mg base N x (defScope st) f cdv A outer s H E).env (cxOf (L2N.CX P w) P w K mg base N x (defScope st) f cdv A outer s H E).xe →
      DXs (cxOf (L2N.CX P w) P w K mg base N x (defScope st) f cdv A outer s H E) (leaves E) (defBody st) g)
    (sem : ∀ us m Q X, a us m Q X → ∃ (ws : List U) (ds : List PyData), us = ws ++ ds.map U.v ∧ ws.length = ps.length ∧ ds.length ≤ sizeLine ∧ g (endX m.length X) (endsD m.length Q) (startU N.length (ws ++ [.v (.tuple ds)])) m) : CalF P w K mg base (k + 1) x a := by
  obtain ⟨f, fd, Fn, hm, hb⟩ := d.ex
  refine ⟨f, ⟨fun A outer s H us vs Q E hr hg e0 r hsp => ?_⟩, hm, Fn.kp⟩
  obtain ⟨oc, od, kV, doc, pm, an, cdv, ct, osl, rfl, lk, hcd⟩ := Fn.ex
  obtain ⟨F0, ro, m, us', Qa, Xq, cm, iu, ha, p, px⟩ := hsp
  obtain ⟨ws, ds, rfl, hl, hz, hgg⟩ := sem _ _ _ _ ha
  obtain ⟨v1, v2, rfl, i1, i2⟩ := isUs_split iu
  obtain ⟨u1, u2, rfl, r1, r2⟩ := vals_split r
  have nH : H s.heap.objs.size = none := e0.hok.fresh (Nat.le_refl _)
  have l1 : v1.length = ps.length := by rw [← i1.length]; exact hl
  have l2 : u1.length = ps.length := by rw [← r1.length]; exact l1
  have z2 : v2.length ≤ sizeLine := by rw [i2.length]; exact hz
  have z3 : u2.length ≤ sizeLine := by rw [← r2.length]; exact z2
  have hpl : (ps ++ [pv]).length ≤ N.length := by have := congrArg List.length S.pre; rw [List.length_take] at this; omega
  refine run_bnd lk hcd S hr e0 (G := fun xs G2 => ∃ q, H q = none ∧ xs = v1 ++ [V.ref q] ∧ G2 = upd H q (.tup v2)) (fun A' Ex R h => ?_) fun s2 G2 xs hx hr' => ?_
  · rw [hb u1 u2 l2]
    refine wpAny_bind (wpAny_newTuple (wpAny_pure ?_) z3)
    have made : ObjOk P w (upd H s.heap.objs.size (.tup v2)) (s.heap.push ({ cls := .type "tuple", data := .seq u2.toArray } : Obj)) s.heap.objs.size (.tup v2) := ⟨z2, u2, r2, _, Heap.get?_push_size _ rfl, rfl, _, rfl⟩
    have y := h { s with heap := s.heap.push ({ cls := .type "tuple", data := .seq u2.toArray } : Obj) } (upd H s.heap.objs.size (.tup v2)) (v1 ++ [V.ref s.heap.objs.size]) (u1 ++ [Value.ref s.heap.objs.size]) (env0_laid e0 made) (un_laid nH) rfl (fun _ _ z => cx_laid (s2 := { s with heap := s.heap.push ({ cls := .type "tuple", data := .seq u2.toArray } : Obj) }) nH rfl rfl z) (r1.append (.cons rfl .nil)) (by simp [l1]) ⟨_, nH, rfl, rfl⟩
    rw [List.zip_append l2.symm] at y
    exact y
  · obtain ⟨q, hq, rfl, rfl⟩ := hx
    obtain ⟨c2, g2⟩ := cm.known hq (.tup v2)
    have it : IsU K (upd F0 q (.tup v2)) ro (.v (.tuple ds)) (.ref q) := IsD.tup (.inl upd_same) (IsDs.mono g2.ex i2)
    refine ⟨cX K (leaves E) g, body f cdv A outer s2 _ E hr' hg (L2N.takes_of rfl rfl rfl rfl) (passes_of rfl), ?_⟩
    obtain ⟨ce, mt⟩ := start_parts c2 (isUs_app (i1.mono g2) (.cons it .nil)) (show (v1 ++ [V.ref q]).length ≤ N.length by simp at hpl ⊢; omega) (p.at g2)
    exact ⟨_, ro, _, m, _, _, c2, ce, hgg, mt, start_X c2 (px.at g2)⟩
end
/-! ### calls -/
section
variable {X : Cx} {W : WX} {k j : Nat} {a : AXp} {x : Str} {p pos : Pos} {e func : Expr} {es : List Expr} {ta : AA} {ff : AE}
theorem run_calF {pins : List (Addr × Obj)} {σ : L2.St} {H : Hp} {s : Shared} {Q : VK} {us : List Value} {vs : List V} {q : Addr} (F : FnXP X.prog X.w X.K X.mg X.base k q a) (hr : Room k X.A) (hg : X.A.guards = some []) (tk : L2N.Takes X W)
    (I : Inv X pins σ H s) (r : Vals vs us) (h : cSpX X.K a vs H Q fun cls d H2 => W cls d σ H2) : wpAny (model X.prog X.w) X.A (call (.ref q) us) (EP X pins σ Q) X.xe s := by
  refine wpAny_call (codeAny_mono (F.run X.A X.stack s H us vs Q _ hr hg I.env0 r h) fun r s' hq => ?_)
  cases r with
  | error e => exact tk _ _ (L2N.XE.of_call I (fun _ _ _ h => h) hq)
  | ok fl =>
    cases fl with
    | ret u => exact I.after hq
    | next => exact False.elim hq
    | brk => exact False.elim hq
    | cont => exact False.elim hq
/-- x(e, ..), x a def with a star that may raise -/
theorem dr_calF (c : CalF X.prog X.w X.K X.mg X.base k x a) (hr : Room j X.A) (hgd : X.A.guards = some []) (tk : L2N.Takes X W) (ha : DA X (e :: es) ta) (hk : k ≤ j := by decide) (hg : Gl X x := by rfl)
    (hdb : (x == ("__debug__" : Str)) = false := by decide) (he : starEach (e :: es) X.env = (false, eval e X.env) :: starEach es X.env := by rfl) (hpl : (backTo pos (starEach es X.env)).any (·.1) = false := by rfl) :
    DR X W (.Call (.Name x p) (e :: es) [] pos) (rCall a ta) := by
  obtain ⟨f, F, hm, kp⟩ := c.ex
  refine ⟨fun pins s σ H Q I ⟨F0, ro, E, m, Qa, Xa, cm, ce, hf, po, px⟩ => ?_⟩
  refine wpAny_Call_Name_kw (ld_glob I hg hm ?_ hdb)
  refine PySem.W.callWith_K (h₀ := X.base) I.ok.mod.kin kp (thn (ha.run pos pins s σ H (fun vs H1 => cSpX X.K a vs H1 Q (fun cls d H2 => W cls d σ H2)) I ⟨F0, ro, E, m, _, cm, ce, hf, fun F1 ro1 H1 us vs m1 g1 c1 i1 h1 =>
    ⟨F1, ro1, m1, us, Qa, _, c1, i1, h1, po.at g1, fun F2 ro2 H2 m2 nm C d pl g2 c2 hn hd hx => px F2 ro2 H2 σ E m2 nm C d pl (g1.trans g2) c2 (ce.mono (g1.trans g2)) hn hd hx⟩⟩) fun us s1 ⟨vs, H1, I1, r, q⟩ => ⟨I1.kIn, ?_⟩) he hpl
  exact run_calF F (hr.mono hk) hgd tk I1 r q
/-- what a value that is called may be -/
inductive AltF (X : Cx) (j : Nat) : List (Str × AXp) → Prop
  | nil : AltF X j []
  | cons {x : Str} {a : AXp} {k : Nat} {l : List (Str × AXp)} (fx : FnIn X.K X.mg x) (c : CalF X.prog X.w X.K X.mg X.base k x a) (r : AltF X j l) (hk : k ≤ j := by decide) : AltF X j ((x, a) :: l)
theorem AltF.get {l : List (Str × AXp)} (h : AltF X j l) {y : Str} {a : AXp} (e : l.lookup y = some a) : ∃ f, FnXP X.prog X.w X.K X.mg X.base j f a ∧ PySem.W.nsIn X.K mainGlobals y = some (some (.ref f)) ∧ PySem.W.keepIn X.K (.ref f) = true := by
  induction h with
  | nil => cases e
  | @cons x b k l fx c r hk ih =>
    rw [List.lookup_cons] at e
    split at e
    · rename_i hy
      cases e
      have ey : y = x := by simpa using hy
      subst ey
      obtain ⟨q, F, hm, kp⟩ := c.ex
      obtain ⟨f, n1, n2⟩ := fx
      rw [hm] at n2
      cases n2
      exact ⟨q, ⟨fun A outer s H us vs Q E hr => F.run A outer s H us vs Q E (hr.mono hk)⟩, n1, kp⟩
    · exact ih e
def rCallF (alts : List (Str × AXp)) (tf : AE) (t : AA) : XR := fun Xa E m Q => tf E m fun u m1 => match u with
  | .o (.fn y) => (match alts.lookup y with
    | some a => t E m1 fun us m2 => a us m2 Q fun nm pl m3 => Xa nm pl E m3
    | none => False)
  | _ => False
theorem callee_at {σ : L2.St} {H : Hp} {Q : VK} {alts : List (Str × AXp)} (al : AltF X j alts) {t : AA} {F : Hp} {ro : List Addr} {E : En} {m : Sto} {Qa : QA} {Xa : XA} (cm : ConM X.K F ro H m) (ce : ConE X.K F ro σ E) (hf : rCallF alts ff t Xa E m Qa) (po : Post X.K F ro H Qa Q) (px : PostX X.K F ro H Xa W) :
    cE X.K ff σ H fun v H1 => ∃ q a, v = V.ref q ∧ FnXP X.prog X.w X.K X.mg X.base j q a ∧ PySem.W.keepIn X.K (.ref q) = true ∧ cA X.K t σ H1 fun vs H2 => cSpX X.K a vs H2 Q fun cls d H3 => W cls d σ H3 := by
  refine ⟨F, ro, E, m, _, cm, ce, hf, fun F1 ro1 H1 u v m1 g1 c1 i1 h1 => ?_⟩
  revert h1
  dsimp only
  split
  · rename_i y
    split
    · rename_i a ea
      intro h1
      obtain ⟨f, FF, n1, kp⟩ := al.get ea
      obtain ⟨f', rfl, h3⟩ := i1
      rw [n1] at h3
      cases h3
      exact ⟨f, a, rfl, FF, kp, F1, ro1, E, m1, _, c1, ce.mono g1, h1, fun F2 ro2 H2 us vs m2 g2 c2 i2 h2 => ⟨F2, ro2, m2, us, Qa, _, c2, i2, h2, po.at (g1.trans g2), fun F3 ro3 H3 m3 nm C d pl g3 c3 hn hd hx => px F3 ro3 H3 σ E m3 nm C d pl (g1.trans (g2.trans g3)) c3 (ce.mono (g1.trans (g2.trans g3))) hn hd hx⟩⟩
    · exact fun h => h.elim
  · exact fun h => h.elim
/-- f(e, ..), f a value that is one of some defs -/
theorem dr_calFV {alts : List (Str × AXp)} (al : AltF X j alts) (hr : Room j X.A) (hgd : X.A.guards = some []) (tk : L2N.Takes X W) (hf : DE X func ff) (ha : DA X (e :: es) ta)
    (hE : eval (.Call func (e :: es) [] pos) X.env = (do callWith pos (← eval func X.env) [] (backTo pos (starEach (e :: es) X.env)) (backToKw pos (keywordEach [] X.env))) := by rfl)
    (he : starEach (e :: es) X.env = (false, eval e X.env) :: starEach es X.env := by rfl) (hpl : (backTo pos (starEach es X.env)).any (·.1) = false := by rfl) :
    DR X W (.Call func (e :: es) [] pos) (rCallF alts ff ta) := by
  refine ⟨fun pins s σ H Q I ⟨F0, ro, E, m, Qa, Xa, cm, ce, hfx, po, px⟩ => ?_⟩
  refine Call_ (thn (hf.run pins s σ H _ I (callee_at al cm ce hfx po px)) fun v s1 ⟨y, H1, I1, ry, q, a, ey, FF, kp, hA⟩ => ?_) hE
  subst ey
  cases ry
  refine PySem.W.callWith_K (h₀ := X.base) I1.ok.mod.kin kp (thn (ha.run pos pins s1 σ H1 _ I1 hA) fun us s2 ⟨vs, H2, I2, r, q1⟩ => ⟨I2.kIn, ?_⟩) he hpl
  exact run_calF FF hr hgd tk I2 r q1
/-- f() -/
theorem dr_calFV0 {alts : List (Str × AXp)} (al : AltF X j alts) (hr : Room j X.A) (hgd : X.A.guards = some []) (tk : L2N.Takes X W) (hf : DE X func ff)
    (hE : eval (.Call func [] [] pos) X.env = (do callWith pos (← eval func X.env) [] (backTo pos (starEach [] X.env)) (backToKw pos (keywordEach [] X.env))) := by rfl) :
    DR X W (.Call func [] [] pos) (rCallF alts ff dNil) := by
  refine ⟨fun pins s σ H Q I ⟨F0, ro, E, m, Qa, Xa, cm, ce, hfx, po, px⟩ => ?_⟩
  refine Call_ (thn (hf.run pins s σ H _ I (callee_at al cm ce hfx po px)) fun v s1 ⟨y, H1, I1, ry, q, a, ey, FF, kp, hA⟩ => ?_) hE
  subst ey
  cases ry
  obtain ⟨F1, ro1, E1, m1, Q1, c1, ce1, h1, p1⟩ := hA
  exact PySem.W.callWith_K0 I1.kIn kp (run_calF (us := []) FF hr hgd tk I1 .nil (p1 F1 ro1 H1 [] [] m1 Gro.refl c1 .nil h1))
end
end Z
/-! YP: a list compared with an empty list, whatever its items are. -/
namespace PySem.SeqAt
open AutoSeq1 (wpAny_loadPart')
open MeetsSeq MeetsSeq2 MeetsSeq3 SeqRoads2
section
variable {prog : Program} {w : World}
theorem handS_list_neSizeIn (l b : Addr) (items items2 : Array Value) (n n2 : Nat) (dd dd2 : Option Addr) (sl sl2 : Array (Option Value)) (hsz : (items.size != items2.size) = true) :
    MeetsIn prog w (Builtin.«list.__eq__» ⟨[.ref l, .ref b], []⟩)
      (fun A R s => s.heap.get? l = some { cls := .type "list", dict := dd, data := .seq items n, slots := sl } ∧ s.heap.get? b = some { cls := .type "list", dict := dd2, data := .seq items2 n2, slots := sl2 } ∧
        R (.ok (.ret (.bool (CmpOp.Eq == CmpOp.NotEq)))) s) := by
  intro A R s h
  obtain ⟨hp, g, d, tk, os⟩ := s; obtain ⟨hl, hb, h⟩ := h
  have f3 := AutoSeq1.sub_list_list
  wp_walk using wpAny_loadPart' hl, wpAny_loadPart' hb
  exact h
theorem rcP_sizes {A : Around} {s : Shared} {l b : Addr} {items items2 : Array Value} (hl : s.heap.IsList l items) (hb : s.heap.IsList b items2) (hsz : (items.size != items2.size) = true) (hu : A.units < cLine)
    (E Q : Value → Shared → Prop) (h : Q (.bool false) s) : wpAny (model prog w) A (richCompare .Eq (.ref l) (.ref b)) Q E s := by
  obtain ⟨⟨cls, dd, data, sl⟩, ho, hc, n, hd⟩ := id hl
  obtain ⟨⟨cls2, dd2, data2, sl2⟩, ho2, hc2, n2, hd2⟩ := id hb
  simp only at hc hd hc2 hd2
  subst hc hd hc2 hd2
  have ta : s.TypeIs (.ref l) "list" := ⟨_, ho, rfl⟩
  have tb : s.TypeIs (.ref b) "list" := ⟨_, ho2, rfl⟩
  exact wpAny_richCompare_same_room (op := .Eq) ta tb F.slot_list_eq (call_meetsIn F.slot_list_eq ta F.entry_list_eq (F.args_list_eq_2 _ _) (handS_list_neSizeIn l b items items2 n n2 dd dd2 sl sl2 hsz)
    ⟨ho, ho2, show Value.bool (CmpOp.Eq == CmpOp.NotEq) ≠ Value.notImplemented ∧ Q (.bool (CmpOp.Eq == CmpOp.NotEq)) s from ⟨(fun x => nomatch x), h⟩⟩) hu
end
end PySem.SeqAt
namespace Z
open PySem PySem.Spec PyProof.Rows L2
def rEqNil (K : PySem.W.Frag) : R2 := fun x y H Q => ∃ a b xs, x = .ref a ∧ y = .ref b ∧ SqL K H a xs ∧ SqL K H b [] ∧ Q (.bl xs.isEmpty) H
theorem op_eqNil {X : Cx} (hu : X.A.units + 64 < cLine) : OpR X (compareOp .Eq) (rEqNil X.K) := by
  intro pins s σ H x y v u Q I rx ry h
  obtain ⟨a, b, xs, rfl, rfl, ha, hb, q⟩ := h
  cases (show v = Value.ref a from rx)
  cases (show u = Value.ref b from ry)
  obtain ⟨us, r1, p1, _⟩ := I.list ha
  obtain ⟨ws, r2, p2, _⟩ := I.list hb
  cases r2
  cases xs with
  | nil =>
    cases r1
    exact SeqAt.rcP_lists (e := fun _ => true) p1.isList p2.isList rfl (show X.A.units < cLine by omega) (fun j h1 _ => absurd h1 (Nat.not_lt_zero j)) _ _ ⟨.bl true, H, I, rfl, q⟩
  | cons x xs =>
    refine SeqAt.rcP_sizes p1.isList p2.isList ?_ (show X.A.units < cLine by omega) _ _ ⟨.bl false, H, I, rfl, q⟩
    cases r1
    rfl
/-- a == [], of a list -/
def aEqNil : R2A := fun a b m Q => match asL m a, asL m b with
  | some xs, some [] => Q (.v (.bool xs.isEmpty)) m
  | _, _ => False
theorem sim_eqNil {K : PySem.W.Frag} : Sim2 K (rEqNil K) aEqNil := by
  intro F ro H m a b v w Q Qa c ia ib h p
  unfold aEqNil at h
  split at h
  · rename_i xs ex ey
    obtain ⟨a1, vs, rfl, r1, d1⟩ := asL_sq c ia ex
    obtain ⟨b1, ws, rfl, r2, d2⟩ := asL_sq c ib ey
    cases d2
    refine ⟨_, _, vs, rfl, rfl, .inl r1, .inl r2, ?_⟩
    have e : vs.isEmpty = xs.isEmpty := by cases d1 <;> rfl
    rw [e]
    exact p.god c (.bl _) h
  · exact h.elim
end Z
/-! YR: raising an exception whose class has an __init__ of its own; its fields. -/
namespace Z
open PySem PySem.Spec PyProof.Rows L2
/-- a class of exceptions whose __init__ keeps its arguments as fields -/
structure CalI (P : Program) (w : World) (K : PySem.W.Frag) (mg : Str → Option Value) (base : Heap) (k : Nat) (nm : Str) (ps : List Str) : Prop where
  ex : ∃ (C fI : Addr) (fd : FuncData), PySem.W.nsIn K mainGlobals nm = some (some (.ref C)) ∧ mg nm = some (.ref C) ∧ OexC K C ∧ PySem.W.findIn K (.ref C) "__init__" = some (some (.ref fI)) ∧ PySem.W.typeIn K (.ref fI) = some (.type "function") ∧
    Binds K fd ps [] ∧ FnOk P w K mg base CX0 k fI fd ps (spInit C (fldNm nm))
/-- raise C(e, ..) -/
def xRaiseI (nm : Str) (t : AA) : XS := fun Xa _ E m => t E m fun us m1 => ∃ ns : List Int, us = ns.map (fun i => U.v (.int i)) ∧ ns.length = (fldNm nm).length ∧ (∀ i ∈ ns, 0 ≤ i ∧ i < 100000) ∧ Xa nm (ns.map .int) E m1
theorem isUs_ints {K : PySem.W.Frag} {F : Hp} {ro : List Addr} : ∀ {ns : List Int} {vs : List V}, IsUs K F ro (ns.map fun i => U.v (.int i)) vs → vs = ns.map V.int
  | [], _, h => by cases h; rfl
  | n :: ns, _, h => by
    cases h with
    | cons a b =>
      cases a
      rw [isUs_ints b]
      rfl
section
variable {X : Cx} {W : WX} {nm : Str} {ps : List Str} {k j : Nat} {e : Expr} {es : List Expr} {ta : AA} {p pos pos2 : Pos}
theorem dx_raiseI (c : CalI X.prog X.w X.K X.mg X.base k nm ps) (hr : Room j X.A) (hc : X.calm = true) (tk : L2N.Takes X W) (ha : DA X (e :: es) ta) (hk : k + 1 ≤ j := by decide) (hg : Gl X nm := by rfl) (hdb : (nm == ("__debug__" : Str)) = false := by decide)
    (he : starEach (e :: es) X.env = (false, eval e X.env) :: starEach es X.env := by rfl) (hpl : (backTo pos (starEach es X.env)).any (·.1) = false := by rfl) :
    DX X W (.Raise (some (.Call (.Name nm p) (e :: es) [] pos)) none pos2) (xRaiseI nm ta) := by
  obtain ⟨C, fI, fd, hns, hmg, T, iC, tI, hb, FF⟩ := c.ex
  refine ps_imp (L2N.ps_raise hc tk (pmk_oexN T iC tI FF (hr.mono hk) hb hg hmg ha hdb he hpl)) fun D σ H ⟨F, ro, E, m, Da, Xa, cm, ce, hf, p, px⟩ => ?_
  refine ⟨F, ro, E, m, _, cm, ce, hf, fun F1 ro1 H1 us vs m1 g1 c1 i1 h1 => ?_⟩
  obtain ⟨ns, rfl, hl, hb, hx⟩ := h1
  have ev := isUs_ints i1
  subst ev
  have fl : (fldNm nm).length ≤ 2 := by unfold fldNm; split; decide; split <;> decide
  refine ⟨by rw [List.length_map]; omega, fun a hna => ?_⟩
  rw [List.append_nil]
  refine ⟨a, ns, rfl, hl, upd_same, hb, fun dx H2 hdx ne ha2 hd2 hrest => ?_⟩
  have hd1 : H1 dx = none := by rw [upd_ne ne] at hdx; exact hdx
  refine ⟨rfl, dx, _, ha2, hd2, hd1, ?_⟩
  have eH : upd (del H2 a) dx (.xd ((fldNm nm).zip (ns.map V.int)).reverse) = upd H1 dx (.xd ((fldNm nm).zip (ns.map V.int)).reverse) := by
    funext b
    by_cases b1 : b = dx
    · rw [b1, upd_same, upd_same]
    · rw [upd_ne b1, upd_ne b1]
      by_cases b2 : b = a
      · rw [b2, del_same, hna]
      · rw [del_ne b2, hrest b b2 b1, upd_ne b2]
  rw [eH]
  obtain ⟨c2, g2⟩ := c1.known hd1 (.xd ((fldNm nm).zip (ns.map V.int)).reverse)
  exact px _ ro1 _ σ E m1 nm C (some dx) (ns.map .int) (g1.trans g2) c2 (ce.mono (g1.trans g2)) hns (.inr ⟨dx, ns, rfl, rfl, hl, upd_same⟩) hx
end
end Z
/-! YS: the fields of a caught exception. -/
namespace Z
open PySem PySem.Spec PyProof.Rows L2
/-- e.f, e an exception that bears f -/
def dFld (rs : List Str) (f : Str) (t : AE) : AE := fun E m Q => t E m fun u m1 => match u with
  | .o (.exc nm pl) => nm ∈ rs ∧ ∃ d, ((fldNm nm).zip pl).lookup f = some d ∧ Q (.v d) m1
  | _ => False
/-- no class of these has an attribute named as a field -/
def fldTab (K : PySem.W.Frag) (rs : List Str) : Bool := rs.all fun nm => match PySem.W.nsIn K mainGlobals nm with
  | some (some (.ref C)) => (fldNm nm).all fun f => PySem.W.findIn K (.ref C) f == some none
  | _ => false
end Z
/-! YF: while an exception is handled (its context is None): the end of an iterator, a tuple taken apart. -/
namespace Z
open PySem PySem.Spec PyProof.Rows L2 HotX
section
variable {prog : Program} {w : World} {A : Around} {E : Value → Shared → Prop} {s : Shared} {x1 : Addr}
/-- a StopIteration is made and raised -/
theorem stop_hot {α : Type} {Q : α → Shared → Prop} (hot : HotAt A x1 s.heap) (hE : ∀ (h' : Heap) (e : Addr), (∀ b o, s.heap.get? b = some o → h'.get? b = some o) → (∃ o, h'.get? e = some o ∧ o.cls = .type "StopIteration") → E (.ref e) { s with heap := h' }) :
    wpAny (model prog w) A (newExc (.type "StopIteration") [] >>= fun e => (raiseNew e : Sem α)) Q E s := by
  obtain ⟨hh, o1, vs1, h1, d1, c1⟩ := hot
  refine wpAny_bind ?_
  simp only [newExc, newTuple]
  refine wpAny_bind (wpAny_newObj_type ?_ (by size_fits))
  refine wpAny_bind (m := firstArgMember _ _) (wpAny_of_eq (a := Value.none) (by first | rfl | (simp only [firstArgMember]; rfl)) ?_)
  refine wpAny_newObj_type ?_ (by size_fits)
  have up := Heap.get?_push_of_some (h := s.heap) { cls := .type "tuple", data := .seq ([] : List Value).toArray } h1
  refine raiseNew_hot ⟨hh, o1, vs1, Heap.get?_push_of_some _ up, d1, c1⟩ (Nat.ne_of_lt (Heap.lt_size up)) (Heap.get?_push_size _ rfl) rfl (by first | (simp; done) | (simp; omega) | (simp only [Array.size_append]; simp; omega)) ?_
  refine hE _ _ (fun b o e => ?_) ⟨_, Heap.get?_update_self _ (Heap.get?_push_size _ rfl) rfl, rfl⟩
  have e2 := Heap.get?_push_of_some (h := s.heap) { cls := .type "tuple", data := .seq ([] : List Value).toArray } e
  rw [Heap.get?_update_other _ _ (Nat.ne_of_gt (Heap.lt_size e2))]
  exact Heap.get?_push_of_some _ e2
theorem HotAt_upd {it : Addr} {f : Obj → Obj} (hot : HotAt A x1 s.heap) (ne : x1 ≠ it) : HotAt A x1 (s.heap.update it f) := by
  obtain ⟨hh, o, vs, h, d, c⟩ := hot
  exact ⟨hh, o, vs, (Heap.get?_update_other _ _ (Ne.symm ne)).trans h, d, c⟩
theorem list_end_hot {it l : Addr} {i : Nat} {items : Array Value} {Q : Option Value → Shared → Prop} (hot : HotAt A x1 s.heap) (ne : x1 ≠ it) (hit : s.heap.IsListIter it l i) (hl : s.heap.IsList l items) (hx : items[i]? = none)
    (hQ : ∀ h', Heap.ExtBut it s.heap h' → Q none { s with heap := h' }) : wpAny (model prog w) A (pyNext (.ref it)) Q E s := by
  obtain ⟨o, g1, g2, g3⟩ := id hit
  obtain ⟨ol, k1, _, n, k2⟩ := hl
  unfold pyNext
  refine wpAny_bind (wpAny_attempt (wpAny_callSpecial?_slot (name := Str.ofString "__next__") hit.typeIs slot_listiter_next (wpAny_call_entry slot_listiter_next hit.typeIs entry_listiter_next ?_ (args_listiter_next _))))
  show wpAny _ _ (field (.ref it) 0 >>= _) _ _ s
  refine wpAny_bind (wpAny_field g1 g3 (x := .ref l) rfl ?_)
  show wpAny _ _ (if (Value.ref l == Value.none) = true then _ else _) _ _ s
  rw [show (Value.ref l == Value.none) = false from rfl, if_neg (by decide)]
  show wpAny _ _ (field (.ref it) 1 >>= _) _ _ s
  refine wpAny_bind (wpAny_field g1 g3 (x := .int i 0) rfl ?_)
  show wpAny _ _ (seqItems? (.ref l) >>= _) _ _ s
  refine wpAny_bind (wpAny_seqItems k1 k2 ?_)
  simp only [Int.toNat_natCast, hx]
  refine wpAny_bind (wpAny_rule (wpAny_bind (wpAny_setField g1 g3 (by simp) ?_)))
  refine stop_hot (HotAt_upd hot ne) fun h' e keep ⟨oe, q1, q2⟩ => ?_
  refine wpAny_bind (wpAny_isInstance (T := "StopIteration") (b := true) ⟨oe, q1, q2⟩ isSubtype_stop (wpAny_pure (hQ _ fun b ob hb q => keep b ob ((Heap.get?_update_other _ _ (Ne.symm hb)).trans q))))
theorem tuple_end_hot {it t : Addr} {i : Nat} {items : Array Value} {Q : Option Value → Shared → Prop} (hot : HotAt A x1 s.heap) (ne : x1 ≠ it) (hit : IsTupIter s.heap it t i) (ht : IsTup s.heap t items) (hx : items[i]? = none)
    (hQ : ∀ h', Heap.ExtBut it s.heap h' → Q none { s with heap := h' }) : wpAny (model prog w) A (pyNext (.ref it)) Q E s := by
  obtain ⟨o, g1, g2, g3⟩ := id hit
  obtain ⟨ol, k1, _, n, k2⟩ := ht
  unfold pyNext
  refine wpAny_bind (wpAny_attempt (wpAny_callSpecial?_slot (name := Str.ofString "__next__") hit.typeIs slot_tupleiter_next (wpAny_call_entry slot_tupleiter_next hit.typeIs entry_tupleiter_next ?_ (args_tupleiter_next _))))
  show wpAny _ _ (field (.ref it) 0 >>= _) _ _ s
  refine wpAny_bind (wpAny_field g1 g3 (x := .ref t) rfl ?_)
  show wpAny _ _ (if (Value.ref t == Value.none) = true then _ else _) _ _ s
  rw [show (Value.ref t == Value.none) = false from rfl, if_neg (by decide)]
  show wpAny _ _ (field (.ref it) 1 >>= _) _ _ s
  refine wpAny_bind (wpAny_field g1 g3 (x := .int i 0) rfl ?_)
  show wpAny _ _ (seqItems? (.ref t) >>= _) _ _ s
  refine wpAny_bind (wpAny_seqItems k1 k2 ?_)
  simp only [Int.toNat_natCast, hx]
  refine wpAny_bind (wpAny_rule (wpAny_bind (wpAny_setField g1 g3 (by simp) ?_)))
  refine stop_hot (HotAt_upd hot ne) fun h' e keep ⟨oe, q1, q2⟩ => ?_
  refine wpAny_bind (wpAny_isInstance (T := "StopIteration") (b := true) ⟨oe, q1, q2⟩ isSubtype_stop (wpAny_pure (hQ _ fun b ob hb q => keep b ob ((Heap.get?_update_other _ _ (Ne.symm hb)).trans q))))
theorem hot_keep {h h' : Heap} (hot : HotAt A x1 h) (k : ∀ o, h.get? x1 = some o → h'.get? x1 = some o) : HotAt A x1 h' := by
  obtain ⟨hh, o, vs, q, d, c⟩ := hot
  exact ⟨hh, o, vs, k o q, d, c⟩
theorem hot_lt {h : Heap} (hot : HotAt A x1 h) : x1 < h.objs.size := by
  obtain ⟨hh, o, vs, q, d, c⟩ := hot
  exact Heap.lt_size q
/-- a tuple is taken apart -/
theorem apart_hot {env : Env} {elts : List Expr} {k : Nat} {pos : Pos} {t : Addr} {items : Array Value} {Q : Unit → Shared → Prop} (hot : HotAt A x1 s.heap) (ht : IsTup s.heap t items) (hn : (assignEach elts env).length = items.size) (hstar : (assignEach elts env).findIdx? (·.1) = none)
    (h : ∀ h', Heap.ExtBut s.heap.objs.size s.heap h' → wpAny (model prog w) A (assignInOrder ((assignEach elts env).map (·.2)) items.toList) Q E { s with heap := h' }) :
    wpAny (model prog w) A (assign (.Tuple elts k pos) env (.ref t)) Q E s := by
  have ne : t ≠ s.heap.objs.size := Nat.ne_of_lt ht.lt
  rw [assign_Tuple]
  refine wpAny_bind (wpAny_standAt ?_)
  unfold unpack
  rw [hn, hstar]
  refine wpAny_bind (wpAny_holding ?_)
  unfold unpackItems notIterableAtAll
  refine wpAny_bind (wpAny_bind (wpAny_specialOf ht.typeIs slot_tuple_iter.lookup (wpAny_pure ?_)))
  simp only [Bool.false_eq_true, if_false]
  refine wpAny_bind (wpAny_holding (iter_tuple ht ?_))
  refine wpAny_bind (wpAny_holding (draw_tuple ne items.size 0 _ _ ⟨_, Heap.get?_push_size _ rfl, rfl, rfl⟩ (ht.push _) (by omega) fun h1 it1 sb => ?_))
  rw [List.drop_zero, List.take_of_length_le (show items.toList.length ≤ items.size by simp), if_neg (by simp)]
  have nx : x1 ≠ s.heap.objs.size := Nat.ne_of_lt (hot_lt hot)
  have hot1 : HotAt A x1 h1 := hot_keep hot fun o e => (sb.2 x1 nx).trans (Heap.get?_push_of_some _ e)
  refine wpAny_bind (wpAny_holding (tuple_end_hot (s := { s with heap := h1 }) hot1 nx it1 ((ht.push _).extBut sb.extBut ne) (by simp) fun h2 ex => ?_))
  simp only [Option.isSome_none, Bool.false_eq_true, if_false]
  exact wpAny_pure (h h2 fun b o hb e => ex b o hb (sb.extBut b o hb (Heap.get?_push_of_some _ e)))
end
end Z
/-! YT: defs called while an exception is handled; list comprehensions over a list there. -/
namespace Z
open PySem PySem.Spec PyProof.Rows L2 HotX L2H
/-- the exception that is handled is known in H, its context is None -/
def HotS (A : Around) (H : Hp) : Prop := ∃ (a : Addr) (oe : Obj) (k : HO) (vs : Array Value), A.handled = some (.ref a) ∧ H a = some (.frz oe k) ∧ oe.data = .fields vs ∧ vs[2]? = some .none
theorem HotS.at {P : Program} {w : World} {A : Around} {H : Hp} {h : Heap} (q : HotS A H) (hk : HOk P w H h) : ∃ x1, HotAt A x1 h ∧ H x1 ≠ none := by
  obtain ⟨a, oe, k, vs, e1, e2, e3, e4⟩ := q
  exact ⟨a, ⟨e1, oe, vs, (hk a _ e2).1, e3, e4⟩, by rw [e2]; simp⟩
def HotQ (X : Cx) : Prop := HotS X.A X.H_0
section
variable {X : Cx} {pins : List (Addr × Obj)} {σ : L2.St} {H : Hp} {s : Shared}
theorem HotQ.now (q : HotQ X) (I : Inv X pins σ H s) : HotS X.A H := by
  obtain ⟨a, oe, k, vs, e1, e2, e3, e4⟩ := q
  exact ⟨a, oe, k, vs, e1, I.base.frzs a oe k e2, e3, e4⟩
theorem HotQ.at (q : HotQ X) (I : Inv X pins σ H s) : ∃ x1, HotAt X.A x1 s.heap ∧ H x1 ≠ none := (q.now I).at I.hok
end
/-- what an iterator does in such contexts -/
def HotTurn (P : Program) (w : World) (K : PySem.W.Frag) (tg : Expr) (J : It) (fp : List Addr) (it : Addr) (tn : Nat → Heap → Prop) : Prop :=
  ∀ X : Cx, X.prog = P → X.w = w → X.K = K → HotQ X → ∀ (n : Nat) (pn : List (Addr × Obj)) (t : Shared) (τ : L2.St) (G : Hp) (E : Value → Shared → Prop), Inv X pn τ G t → (∀ c ∈ fp, FpOk X pn G c) → tn n t.heap →
    (J.go n G → wpAny (model P w) X.A (pyNext (.ref it)) (fun r t1 => ∃ u, r = some u ∧ wpAny (model P w) X.A (letOwnedTupleGo tg (.ref it) u) (fun _ t2 => ∃ x G', Inv X pn τ G' t2 ∧ RelV x u ∧ J.yld n G x G' ∧ tn (n + 1) t2.heap ∧ ∀ c ∈ fp, G' c = none) E t1) E t) ∧
    (J.stop n G → wpAny (model P w) X.A (pyNext (.ref it)) (fun r t1 => r = none ∧ Inv X pn τ G t1) E t)
def PIEQ (X : Cx) (pins : List (Addr × Obj)) (σ : L2.St) (tg : Expr) (R : It → Hp → Prop) (v : Value) (t : Shared) : Prop :=
  ∃ (it : Addr) (fp : List Addr) (tn : Nat → Heap → Prop) (J : It) (G : Hp), v = .ref it ∧ Inv X pins σ G t ∧ Turn X.prog X.w X.K tg J fp it tn ∧ HotTurn X.prog X.w X.K tg J fp it tn ∧ tn 0 t.heap ∧ (∀ c ∈ fp, FpOk X pins G c) ∧ R J G
structure PIQ (X : Cx) (tg iter : Expr) (wi : TI) : Prop where
  run : ∀ (pins : List (Addr × Obj)) (t : Shared) (σ : L2.St) (G : Hp) (R : It → Hp → Prop), Inv X pins σ G t → wi σ G R →
    wpAny (model X.prog X.w) X.A (eval iter X.env) (fun v t1 => wpAny (model X.prog X.w) X.A (pyIter v) (PIEQ X pins σ tg R) X.xe t1) X.xe t
section
variable {X : Cx} {tg iter : Expr}
theorem piq_imp {wi wi' : TI} (h : PIQ X tg iter wi) (i : ∀ σ H R, wi' σ H R → wi σ H R) : PIQ X tg iter wi' := ⟨fun pins s σ H R I hw => h.run pins s σ H R I (i σ H R hw)⟩
theorem hot_list {P : Program} {w : World} {K : PySem.W.Frag} {tg : Expr} (a it : Addr) : HotTurn P w K tg (Itl K a) [it] it (fun i h => h.IsListIter it a i) := by
  intro X eP eW eK hq n pn t τ G E I hf st
  subst eP eW eK
  obtain ⟨x1, hot, hx1⟩ := hq.at I
  obtain ⟨f0, f1, f2, f3, f4, f5⟩ := hf it (by simp)
  have ne : x1 ≠ it := fun z => hx1 (z ▸ f0)
  refine ⟨fun ⟨xs, x, hs, hx⟩ => ?_, fun ⟨xs, hs, hx⟩ => ?_⟩
  · obtain ⟨its, rv, p, _⟩ := I.list hs
    obtain ⟨u, hu, ru⟩ := rv.get hx
    refine wpAny_pyNext_list_item st p.isList (x := u) (by simpa using hu) fun h1 st1 sb => ⟨u, rfl, ?_⟩
    obtain ⟨o, e1, e2, e3⟩ := id st1
    refine go_of (s := { t with heap := h1 }) e1 e2 e3 (by decide) ⟨x, G, I.turned (t' := t.toks) (fun b o hb e => (sb.2 b hb).trans e) f0 f1 f3 f4 f5, ru, ⟨rfl, fun ys hy => ?_⟩, st1, fun c hc => (hf c hc).1⟩
    rw [I.list_inj hy hs]; exact hx
  · obtain ⟨its, rv, p, _⟩ := I.list hs
    have hl := rv.length
    exact list_end_hot hot ne st p.isList (by simp; omega) fun h1 eb => ⟨rfl, I.turned (t' := t.toks) (fun b o hb e => eb b o hb e) f0 f1 f3 f4 f5⟩
theorem pi_listQ {l : Expr} {tl : TE} (hl : PE X l tl) : PIQ X tg l (iList X.K tl) := by
  refine ⟨fun pins t σ G R I h => thn (hl.run pins t σ G _ I h) fun v t1 ⟨x, H1, I1, r1, a, e, ⟨xs, hs⟩, q⟩ => ?_⟩
  subst e
  cases r1
  obtain ⟨its, rv, p, hz⟩ := I1.list hs
  refine wpAny_pyIter_list p.isList ⟨t1.heap.objs.size, [t1.heap.objs.size], _, _, H1, rfl, I1.kept (t' := t1.toks) fun b o e => Heap.get?_push_of_some _ e, turn_list a _, hot_list a _, ⟨_, Heap.get?_push_size _ rfl, rfl, rfl⟩, fun c hc => ?_, q⟩
  obtain rfl : c = t1.heap.objs.size := by simpa using hc
  exact I1.fpOk (Nat.le_refl _) (I1.hok.fresh (Nat.le_refl _))
/-- (a, b, ..) = a tuple -/
theorem pg_tupH {es : List Expr} {k : Nat} {t : TGs} {n : Nat} {pos : Pos} (hq : HotQ X) (h : PGs X es t) (hn : (assignEach es X.env).length = n := by rfl) (hst : (assignEach es X.env).findIdx? (·.1) = none := by rfl) : PG X (.Tuple es k pos) (gTup X.K n t) := by
  refine ⟨fun pins s σ H v u Q I r ⟨a, xs, e1, hs, hl, hw⟩ => ?_⟩
  subst e1
  cases r
  obtain ⟨its, rv, ht, hz⟩ := I.tuple hs
  obtain ⟨x1, hot, _⟩ := hq.at I
  refine apart_hot hot ht (by simp [hn, ← hl, rv.length]) hst fun h1 hx => ?_
  exact h.run pins _ σ H xs _ Q (I.kept (t' := s.toks) fun b o e => hx b o (Nat.ne_of_lt (Heap.lt_size e)) e) (by simpa using rv) hw
end
/-! ### list comprehensions -/
section
variable {X : Cx}
/-- one item: N is wanted behind it -/
def LcStep (g : TG) (tt : TT) (te : TE) (τ : L2.St) (vs : List Nat) (D : Addr) (x : V) (H : Hp) (N : Hp → Prop) : Prop :=
  g x τ H fun τ2 H2 => wipe τ2 vs = τ ∧ tt τ2 H2 fun b H3 => if b = true then te τ2 H3 fun y H4 => ∃ acc, H4 D = some (.lst acc) ∧ acc.length < sizeLine ∧ N (upd H4 D (.lst (acc ++ [y]))) else N H3
/-- the turns of the loop, within the block -/
theorem lch_turns {pins : List (Addr × Obj)} {σ : L2.St} {H3 : Hp} {s3 s4 : Shared} {Q : VK} {elt tg iter : Expr} {ifs : List Expr} {scope : Scope} {own : List (PySem.Str × Nat)} {pos : Pos} {g : TG} {tt : TT} {te : TE} {R : Result → Shared → Prop} {ce : Env} {fp : List Addr} {D : Addr} {J : It} {tn : Nat → Heap → Prop} {it : Addr} {W : Nat → Nat → Hp → Prop} {m0 : Nat}
    (hq : HotS X.A H3) (T : Turn X.prog X.w X.K tg J fp it tn) (TH : HotTurn X.prog X.w X.K tg J fp it tn) (pg : PG (X.blk s3 H3 scope ce fp) tg g) (pt : PTs (X.blk s3 H3 scope ce fp) ifs tt) (pe : PE (X.blk s3 H3 scope ce fp) elt te)
    (turn : ∀ i m G, W i m G → (J.stop i G ∧ Q (.ref D) G) ∨ (J.go i G ∧ ∃ N : Hp → Prop, (∀ G', N G' → ∃ m', m' < m ∧ W (i + 1) m' G') ∧ ∀ x G', J.yld i G x G' → LcStep g tt te (wipe σ (own.map (·.2))) (own.map (·.2)) D x G' N))
    (I4 : Inv (X.blk s3 H3 scope ce fp) [] (wipe σ (own.map (·.2))) H3 s4) (st4 : tn 0 s4.heap) (nfp : ∀ b ∈ fp, H3 b = none) (w0 : W 0 m0 H3)
    (hEnd : ∀ G t, Inv (X.blk s3 H3 scope ce fp) [] (wipe σ (own.map (·.2))) G t → Q (.ref D) G → R (.ok .next) t) :
    codeAny (model X.prog X.w) X.A (.compLoop (.ListComp elt [⟨tg, iter, ifs, 0⟩] scope pos) 0 (.ref it) (.ref D) ce) R s4 := by
  have hqB : HotQ (X.blk s3 H3 scope ce fp) := hq
  have still : ∀ {τ : L2.St} {G : Hp} {t : Shared}, Inv (X.blk s3 H3 scope ce fp) [] τ G t → (∀ b ∈ fp, G b = none) → ∀ b ∈ fp, FpOk (X.blk s3 H3 scope ce fp) [] G b := fun J hn b hb =>
    ⟨hn b hb, (J.ok.exf b hb).1, J.ok.exfs b hb, .inl hb, fun x c e => (J.ok.exf b hb).2 x c e, fun p hp => absurd (show p ∈ ([] : List (Addr × Obj)) from hp) (by simp)⟩
  refine compLoop_any (fun n t => ∃ i G, Inv (X.blk s3 H3 scope ce fp) [] (wipe σ (own.map (·.2))) G t ∧ tn i t.heap ∧ (∀ b ∈ fp, G b = none) ∧ W i n G) (fun n t ⟨i, G, J5, a5, n5, w5⟩ => ?_) m0 ⟨0, H3, I4, st4, nfp, w0⟩
  have TT := TH (X.blk s3 H3 scope ce fp) rfl rfl rfl hqB i [] t _ G (fun _ _ => False) J5 (still J5 n5) a5
  rcases turn i n G w5 with ⟨stop, qq⟩ | ⟨go, N, less, step⟩
  · refine thnF (TT.2 stop) fun r t1 ⟨er, J6⟩ => ?_
    subst er
    exact hEnd G t1 J6 qq
  · refine thnF (TT.1 go) fun r t1 ⟨u, er, h1⟩ => ?_
    subst er
    refine thnF h1 fun _ t2 ⟨x, G2, J2, r2, y2, a2, n2⟩ => ?_
    have J2' := J2.pinned (still J2 n2) (T.obj _ _ a2)
    refine thnF (pg.run _ t2 _ G2 x u _ J2' r2 (step x G2 y2)) fun _ t3 ⟨τ3, G3, J3, ew, q3⟩ => ?_
    refine thnF (pt.run _ t3 τ3 G3 _ J3 q3) fun b t4 ⟨G4, J4, q4⟩ => ?_
    have over : ∀ {t' : Shared} {G' : Hp}, Inv (X.blk s3 H3 scope ce fp) ([] ++ pinsAt fp t2.heap) τ3 G' t' → N G' → ∃ m, m < n ∧ ∃ i G, Inv (X.blk s3 H3 scope ce fp) [] (wipe σ (own.map (·.2))) G t' ∧ tn i t'.heap ∧ (∀ b ∈ fp, G b = none) ∧ W i m G := fun {t' G'} J' hN => by
      obtain ⟨m', lt, w'⟩ := less G' hN
      have at_ : ∀ b ∈ fp, ∀ o, t2.heap.get? b = some o → t'.heap.get? b = some o ∧ G' b = none := fun b hb o e =>
        let z := J'.pin (b, o) (List.mem_append_right _ (List.mem_append_right _ (mem_pinsAt hb e)))
        ⟨z.1, z.2.1⟩
      refine ⟨m', lt, i + 1, G', (J'.unpinned (pins := [])).weak (by rw [← ew, wipe_length]) (fun j v e => ?_), T.keep _ _ _ a2 fun b hb o e => (at_ b hb o e).1, fun b hb => ?_, w'⟩
      · rw [← ew] at e
        exact (wipe_some e).1
      · obtain ⟨o, e, _⟩ := T.obj _ _ a2 b hb
        exact (at_ b hb o e).2
    cases b with
    | false =>
      simp only [Bool.false_eq_true, if_false] at q4 ⊢
      exact over J4 q4
    | true =>
      simp only [if_true] at q4 ⊢
      refine thnF (pe.run _ t4 τ3 G4 _ J4 q4) fun z t5 ⟨y, G5, J5, r5, acc, hD, few, hN⟩ => ?_
      exact app_ok (X := X.blk s3 H3 scope ce fp) J5 hD few r5 fun t6 J6 => over J6 hN
/-- [elt for tg in iter if ..] -/
theorem lch_core {pins : List (Addr × Obj)} {s : Shared} {σ : L2.St} {H : Hp} {Q : VK} {elt tg iter : Expr} {ifs : List Expr} {scope : Scope} {own : List (PySem.Str × Nat)} {pos pos' : Pos} {wi : TI} {g : TG} {tt : TT} {te : TE} {use : Option (Value → Sem Unit)} {Qf : Value → Shared → Prop}
    (hq : HotQ X) (nd : X.N.Nodup) (I : Inv X pins σ H s) (pi : PIQ X tg iter wi) (bk : BlkOk X.N X.env.scope scope own)
    (fg : ∀ (t : Shared) (G : Hp) (b : Addr) (cl : List (PySem.Str × Addr)) (fp : List Addr), HotS X.A G → PG (X.blk t G scope (compEnvC scope cl b X.env) fp) tg g)
    (ft : ∀ (t : Shared) (G : Hp) (b : Addr) (cl : List (PySem.Str × Addr)) (fp : List Addr), PTs (X.blk t G scope (compEnvC scope cl b X.env) fp) ifs tt)
    (fe : ∀ (t : Shared) (G : Hp) (b : Addr) (cl : List (PySem.Str × Addr)) (fp : List Addr), PE (X.blk t G scope (compEnvC scope cl b X.env) fp) elt te)
    (flat : ∀ v, foldedSetIterable iter X.env v = pure v) (h : tLc wi g tt te (own.map (·.2)) σ H Q)
    (hE : ∀ D C t m G, Inv X pins σ G t → Q (.ref D) G → t.heap.Ns C m → FpOk X pins G C → compPost (model X.prog X.w) X.A X.xe use Qf (.ref D) C (.ok .next) t) :
    wpAny (model X.prog X.w) X.A (comprehension (.ListComp elt [⟨tg, iter, ifs, 0⟩] scope pos) scope X.env pos' (newList []) false (eval iter X.env) use) Qf X.xe s := by
  have freed : ∀ n ∈ scope.names, n.2 = .free → ∃ c, X.env.cells.lookup n.1 = some c := fun n hn e => (bk.free n hn e).elim (fun k => I.ok.has _ (.inl k)) fun k => I.ok.has _ (.inr k)
  refine wpAny_comprehension_free (use := use) rfl flat (closure_ok freed) bk.kind (fun n hn e => by rw [bk.uniq n hn, e]) (thn (pi.run pins s σ H _ I h) fun v0 t1 h1 => thn h1 fun v1 t2 h2 => ?_)
  obtain ⟨it, fp, tn, J, G2, ev, I2, T, TH, a2, ff, hw⟩ := h2
  subst ev
  refine wpAny_newObj_type (newEnv_comp ?_) (by show 0 ≤ sizeLine; decide)
  obtain ⟨D, eD⟩ : ∃ D, t2.heap.objs.size = D := ⟨_, rfl⟩
  rw [eD]
  obtain ⟨W, ⟨m0, w0⟩, turn⟩ := hw D (I2.hok.fresh (Nat.le_of_eq eD))
  obtain ⟨t3, e3⟩ : ∃ t3 : Shared, { t2 with heap := t2.heap.push { cls := .type "list", data := .seq ([] : List Value).toArray } } = t3 := ⟨_, rfl⟩
  obtain ⟨H3, eH⟩ : ∃ H3, upd G2 D (.lst []) = H3 := ⟨_, rfl⟩
  have hp3 : t3.heap = t2.heap.push { cls := .type "list", data := .seq ([] : List Value).toArray } := by rw [← e3]
  have I3 : Inv X pins σ H3 t3 := by
    rw [← e3, ← eH]
    refine I2.laid (t' := t2.toks) (fun c u e => Heap.get?_push_of_some _ e) (Nat.le_of_eq eD) ⟨Nat.zero_le _, [], 0, .nil, ?_⟩
    rw [← eD]
    exact Heap.get?_push_size _ rfl
  have f3 : ∀ c ∈ fp, FpOk X pins H3 c ∧ c < t3.heap.objs.size := fun c hcm => by
    obtain ⟨u, eu, _⟩ := T.obj _ _ a2 c hcm
    have lt := Heap.lt_size eu
    refine ⟨⟨?_, (ff c hcm).2⟩, by rw [hp3, Heap.size_push]; exact Nat.lt_succ_of_lt lt⟩
    rw [← eH, upd_ne (by rw [← eD]; exact Nat.ne_of_lt lt)]
    exact (ff c hcm).1
  have a3 : tn 0 t3.heap := T.keep _ _ _ a2 fun c _ u e => by rw [hp3]; exact Heap.get?_push_of_some _ e
  rw [eH] at w0
  have hq3 : HotS X.A H3 := hq.now I3
  have I4 := block_start I3 bk nd f3
  rw [e3]
  obtain ⟨C, eC⟩ : ∃ C, t3.heap.objs.size = C := ⟨_, rfl⟩
  obtain ⟨cells, ecl⟩ : ∃ cells, cellsFrom (C + 1) scope.names (cloFrom X.env.cells scope.names []) = cells := ⟨_, rfl⟩
  obtain ⟨ce, ece⟩ : ∃ ce, compEnvC scope cells C X.env = ce := ⟨_, rfl⟩
  have whole : codeAny (model X.prog X.w) X.A (.compStart (.ListComp elt [⟨tg, iter, ifs, 0⟩] scope pos) 0 (.ref it) (.ref D) ce) (compPost (model X.prog X.w) X.A X.xe use Qf (.ref D) C) { t3 with heap := pushCells (t3.heap.push { cls := .type "dict", data := .dict #[] }) scope.names } := by
    rw [eC, ecl, ece] at I4
    have lc : ce.locals = C := by rw [← ece]; rfl
    have pg := fg t3 H3 C cells fp hq3
    have pt := ft t3 H3 C cells fp
    have pe := fe t3 H3 C cells fp
    rw [ece] at pg pt pe
    obtain ⟨t4, e4⟩ : ∃ t4 : Shared, { t3 with heap := pushCells (t3.heap.push { cls := .type "dict", data := .dict #[] }) scope.names } = t4 := ⟨_, rfl⟩
    rw [e4] at I4 ⊢
    have a4 : tn 0 t4.heap := T.keep _ _ _ a3 fun c _ u e => by rw [← e4]; exact pushCells_keeps _ _ _ _ (Heap.get?_push_of_some _ e)
    have lp : codeAny (model X.prog X.w) X.A (.compLoop (.ListComp elt [⟨tg, iter, ifs, 0⟩] scope pos) 0 (.ref it) (.ref D) ce) (compPost (model X.prog X.w) X.A X.xe use Qf (.ref D) C) t4 := by
      refine lch_turns (X := X) (pins := pins) hq3 T TH pg pt pe turn I4 a4 (fun c hcm => (f3 c hcm).1.1) w0 fun G t5 J5 qq => ?_
      have I6 : Inv X pins σ G t5 := I3.call' (ch := fp) J5.os J5.base J5.hok J5.bare fun c hcm => let ⟨_, z1, z2, z3, z4, z5⟩ := (f3 c hcm).1; ⟨z3, z1, z4, z5⟩
      have none_ : G C = none := lc ▸ J5.free
      obtain ⟨m, at_, _⟩ := J5.loc
      have at_ : t5.heap.Ns C m := lc ▸ at_
      exact hE D C t5 m G I6 qq at_ (I3.fpOk (Nat.le_of_eq eC) none_)
    exact codeAny_compStart_list lp (T.self X.A 0 _ _ _ a4 lp)
  rw [← ece, ← ecl, ← eC] at whole
  rw [eC] at whole ⊢
  exact whole
end
end Z
/-! YU: readings of what runs while an exception is handled: comprehensions, except suites that call defs, the defs called. -/
namespace Z
open PySem PySem.Spec PyProof.Rows L2 HotX L2H
section
variable {X : Cx} {elt tg iter : Expr} {ifs : List Expr} {scope : Scope} {own : List (PySem.Str × Nat)} {pos : Pos} {wi : TI} {g : TG} {tt : TT} {te : TE}
theorem pe_lcH (hq : HotQ X) (nd : X.N.Nodup) (pi : PIQ X tg iter wi) (bk : BlkOk X.N X.env.scope scope own)
    (fg : ∀ (t : Shared) (G : Hp) (b : Addr) (cl : List (PySem.Str × Addr)) (fp : List Addr), HotS X.A G → PG (X.blk t G scope (compEnvC scope cl b X.env) fp) tg g)
    (ft : ∀ (t : Shared) (G : Hp) (b : Addr) (cl : List (PySem.Str × Addr)) (fp : List Addr), PTs (X.blk t G scope (compEnvC scope cl b X.env) fp) ifs tt)
    (fe : ∀ (t : Shared) (G : Hp) (b : Addr) (cl : List (PySem.Str × Addr)) (fp : List Addr), PE (X.blk t G scope (compEnvC scope cl b X.env) fp) elt te)
    (flat : ∀ v, foldedSetIterable iter X.env v = pure v) : PE X (.ListComp elt [⟨tg, iter, ifs, 0⟩] scope pos) (tLc wi g tt te (own.map (·.2))) := by
  refine ⟨fun pins s σ H Q I h => ?_⟩
  rw [eval_ListComp]
  refine lch_core hq nd I pi bk fg ft fe flat h fun D C t m G J q hn ⟨k0, k1, k2, k3, k4, k5⟩ => ⟨m, hn, fun h9 sb => ?_⟩
  exact ⟨.ref D, G, J.turned (t' := t.toks) (fun c u ne e => (sb.2 c ne).trans e) k0 k1 k3 k4 k5, rfl, q⟩
theorem ps_setLcH {i : Nat} {y : PySem.Str} {py spos : Pos} (hq : HotQ X) (nd : X.N.Nodup) (hy : X.N[i]? = some y) (hyl : X.env.scope.names.lookup y = some .local)
    (hsw : swapsWith (.ListComp elt [⟨tg, iter, ifs, 0⟩] scope pos) (some (.Name y py)) spos.line X.env = pure true) (pi : PIQ X tg iter wi) (bk : BlkOk X.N X.env.scope scope own)
    (fg : ∀ (t : Shared) (G : Hp) (b : Addr) (cl : List (PySem.Str × Addr)) (fp : List Addr), HotS X.A G → PG (X.blk t G scope (compEnvC scope cl b X.env) fp) tg g)
    (ft : ∀ (t : Shared) (G : Hp) (b : Addr) (cl : List (PySem.Str × Addr)) (fp : List Addr), PTs (X.blk t G scope (compEnvC scope cl b X.env) fp) ifs tt)
    (fe : ∀ (t : Shared) (G : Hp) (b : Addr) (cl : List (PySem.Str × Addr)) (fp : List Addr), PE (X.blk t G scope (compEnvC scope cl b X.env) fp) elt te)
    (flat : ∀ v, foldedSetIterable iter X.env v = pure v) : PS X (.Assign [.Name y py] (.ListComp elt [⟨tg, iter, ifs, 0⟩] scope pos) spos) (tAsg (tLc wi g tt te (own.map (·.2))) (gName i)) := by
  refine ⟨fun pins s σ H D I h => ?_⟩
  have w : tLc wi g tt te (own.map (·.2)) σ H (fun x G => gName i x σ G D.nx) := h
  rw [exec_Assign_Name_used _ _ _ _ hsw]
  refine wpAny_bind (wpAny_standAt (wpAny_bind (wpAny_bind (thn (lch_core (pos' := firstIterPos [⟨tg, iter, ifs, 0⟩] pos) (use := some (assign (.Name y py) X.env)) (Qf := fun _ t => SP X pins D .next t) hq nd I pi bk fg ft fe flat w fun L C t m G J q hn f => ?_) fun _ t hw => wpAny_pure (wpAny_pure hw)))))
  refine wpAny_assign_Name (store_ok2 (v := V.ref L) J nd hy (.inl hyl) rfl (fun t2 J2 ⟨a, sb, hA⟩ => ?_) (.inr hyl))
  obtain ⟨k0, k1, k2, k3, k4, k5⟩ := f
  have ne : C ≠ a := fun e => hA.elim (fun z => k1 (e.trans z)) fun z => k4 y a z e.symm
  exact ⟨m, hn.sameBut sb ne, fun h9 sb9 => ⟨_, G, J2.turned (t' := t2.toks) (fun c u nc e => (sb9.2 c nc).trans e) k0 k1 k3 k4 k5, q⟩⟩
theorem list_simI {K : PySem.W.Frag} {f : AE} (σ : L2.St) (H : Hp) (R : It → Hp → Prop) (h : cI K (sList f) σ H R) : iList K (cE K f) σ H R := by
  obtain ⟨F, ro, E, m, Ra, c, ce, hf, p⟩ := h
  exact ⟨F, ro, E, m, _, c, ce, hf, fun F1 ro1 H1 u v m1 g1 c1 i1 h1 => by
    revert h1
    split
    · rename_i l el
      intro h1
      obtain ⟨a, rfl, at_⟩ := list_at c1 i1 el
      have gd0 : guardOf m1 u m1 := by cases u <;> first | trivial | rfl
      obtain ⟨xs0, r0, d0⟩ := at_ F1 ro1 H1 m1 Gro.refl c1 gd0
      refine ⟨a, rfl, ⟨xs0, .inl r0⟩, p F1 ro1 H1 _ _ m1 _ g1 c1 ?_ h1⟩
      refine ⟨fun i F' ro' H' m' g c' gd hi => ?_, fun F' ro' H' m' g c' gd => ?_, fun i w F' ro' H' m' x H2 g c' gd hw hy => ?_⟩
      · obtain ⟨xs, r, d⟩ := at_ F' ro' H' m' g c' gd
        rw [List.length_map] at hi
        obtain ⟨v, e1, _⟩ := d.get (List.getElem?_eq_getElem hi)
        exact ⟨xs, v, .inl r, e1⟩
      · obtain ⟨xs, r, d⟩ := at_ F' ro' H' m' g c' gd
        exact ⟨xs, .inl r, by rw [d.length, List.length_map]; exact Nat.le_refl _⟩
      · obtain ⟨xs, r, d⟩ := at_ F' ro' H' m' g c' gd
        obtain ⟨rfl, hy⟩ := hy
        rw [List.getElem?_map] at hw
        obtain ⟨dd, e1, e2⟩ := Option.map_eq_some_iff.mp hw
        subst e2
        obtain ⟨v, e3, e4⟩ := d.get e1
        have ex := hy xs (.inl r)
        rw [e3] at ex
        cases ex
        exact ⟨F', c', Gro.refl, e4⟩
    · exact fun h => h.elim⟩
abbrev DIH (X : Cx) (tg iter : Expr) (s : AI) : Prop := PIQ X tg iter (cI X.K s)
theorem dih_list {e : Expr} {f : AE} (h : DE X e f) : DIH X tg e (sList f) := piq_imp (pi_listQ h) list_simI
variable {s : AI} {ga : AG} {ta : AT} {ea : AE} {vs : List Nat}
theorem de_lcH (hq : HotQ X) (nd : X.N.Nodup) (hi : DIH X tg iter s) (bk : BlkOk X.N X.env.scope scope own) (hv : own.map (·.2) = vs) (ho : GOwn X.K g ga vs)
    (fg : ∀ (t : Shared) (G : Hp) (b : Addr) (cl : List (PySem.Str × Addr)) (fp : List Addr), HotS X.A G → PG (X.blk t G scope (compEnvC scope cl b X.env) fp) tg g)
    (ft : ∀ (t : Shared) (G : Hp) (b : Addr) (cl : List (PySem.Str × Addr)) (fp : List Addr), DTs (X.blk t G scope (compEnvC scope cl b X.env) fp) ifs ta)
    (fe : ∀ (t : Shared) (G : Hp) (b : Addr) (cl : List (PySem.Str × Addr)) (fp : List Addr), DE (X.blk t G scope (compEnvC scope cl b X.env) fp) elt ea)
    (flat : ∀ v, foldedSetIterable iter X.env v = pure v := by intro _; rfl) : DE X (.ListComp elt [⟨tg, iter, ifs, 0⟩] scope pos) (dLc s ga ta ea vs) := by
  subst hv
  exact pe_imp (pe_lcH hq nd hi bk fg ft fe flat) (lc_sim ho)
theorem ds_setLcH (i : Nat) {y : PySem.Str} {py spos : Pos} (hq : HotQ X) (nd : X.N.Nodup) (hsw : swapsWith (.ListComp elt [⟨tg, iter, ifs, 0⟩] scope pos) (some (.Name y py)) spos.line X.env = pure true)
    (hi : DIH X tg iter s) (bk : BlkOk X.N X.env.scope scope own) (hv : own.map (·.2) = vs) (ho : GOwn X.K g ga vs)
    (fg : ∀ (t : Shared) (G : Hp) (b : Addr) (cl : List (PySem.Str × Addr)) (fp : List Addr), HotS X.A G → PG (X.blk t G scope (compEnvC scope cl b X.env) fp) tg g)
    (ft : ∀ (t : Shared) (G : Hp) (b : Addr) (cl : List (PySem.Str × Addr)) (fp : List Addr), DTs (X.blk t G scope (compEnvC scope cl b X.env) fp) ifs ta)
    (fe : ∀ (t : Shared) (G : Hp) (b : Addr) (cl : List (PySem.Str × Addr)) (fp : List Addr), DE (X.blk t G scope (compEnvC scope cl b X.env) fp) elt ea)
    (hy : X.N[i]? = some y := by rfl) (hyl : X.env.scope.names.lookup y = some .local := by rfl) (flat : ∀ v, foldedSetIterable iter X.env v = pure v := by intro _; rfl) :
    DS X (.Assign [.Name y py] (.ListComp elt [⟨tg, iter, ifs, 0⟩] scope pos) spos) (dAsg i (dLc s ga ta ea vs)) := by
  subst hv
  refine ps_imp (ps_setLcH (tt := cT X.K ta) (te := cE X.K ea) hq nd hy hyl hsw hi bk fg ft fe flat) fun D σ H ⟨F, ro, E, m, Da, c, ce, hf, p⟩ => ?_
  exact lc_sim (K := X.K) (s := s) (ga := ga) (tt := ta) (te := ea) ho σ H (fun x H1 => gName i x σ H1 D.nx) ⟨F, ro, E, m, _, c, ce, hf, fun F1 ro1 H1 u v m1 g1 c1 i1 h1 => p.nx F1 ro1 H1 _ _ m1 g1 c1 ((ce.mono g1).set i i1) h1⟩
end
/-! ### the suite -/
/-- the context of an except suite that knows the handled exception from its entry on -/
abbrev suiteH (X : Cx) (a : Addr) (oe : Obj) : Cx := { X with A := X.A.mark (some (.ref a)), calm := false, xe := fun _ _ => False, H_0 := upd X.H_0 a (excHO a oe) }
section
variable {X : Cx} {pins : List (Addr × Obj)} {σ : L2.St} {H : Hp} {s : Shared} {a : Addr} {oe : Obj}
theorem toH (I : Inv (suiteT X a) pins σ H s) (ha : H a = some (excHO a oe)) (h0 : X.s_0.heap.get? a = none) (nf : a ∉ X.fs) : Inv (suiteH X a oe) pins σ H s := by
  have ne : ∀ {b o}, X.s_0.heap.get? b = some o → b ≠ a := fun {b o} e z => by rw [z, h0] at e; cases e
  have ok := I.ok
  have u := I.base
  have old : ∀ {b o}, X.s_0.heap.get? b = some o → upd X.H_0 a (excHO a oe) b = none → X.H_0 b = none := fun {b o} e n => (upd_ne (ne e)).symm.trans n
  refine ⟨⟨ok.mod, ok.kind, ok.glob, ok.blt, ok.above, ok.inj, ok.has, ok.cab, (fun z => nomatch z), ok.frames, ok.stk, ok.exf, fun b o e => ⟨(ok.bs b o e).1, (upd_ne (ne (ok.bs b o e).1)).trans (ok.bs b o e).2⟩, ok.bsz, ok.noex, ok.exfs, ok.funs, fun b hb => (upd_ne (fun z : b = a => nf (z ▸ hb))).trans (ok.frf b hb)⟩,
    I.os, I.bare, ⟨fun b o e n => u.keep b o e (old e n), fun b o e n => u.slot b o e (old e n), fun b o e n => u.free b o e (old e n), u.there, fun b xs e => ?_, fun b o k e => ?_, fun b ps e => ?_⟩, I.loc, I.cell, I.free, I.freeC, I.pin, I.hok, I.len⟩
  all_goals by_cases z : b = a
  · subst z; cases upd_same.symm.trans e
  · exact u.tups b xs ((upd_ne z).symm.trans e)
  · subst z; cases upd_same.symm.trans e; exact ha
  · exact u.frzs b o k ((upd_ne z).symm.trans e)
  · subst z; cases upd_same.symm.trans e
  · exact u.tbls b ps ((upd_ne z).symm.trans e)
/-- at the entry nothing lasting was known of it -/
structure Fresh0 (X : Cx) (a : Addr) : Prop where
  h0 : X.s_0.heap.get? a = none
  t : ∀ xs, X.H_0 a ≠ some (.tup xs)
  f : ∀ o k, X.H_0 a ≠ some (.frz o k)
  b : ∀ ps, X.H_0 a ≠ some (.tbl ps)
theorem Down.fresh0 {cls : Value} {d : Option Addr} (D : Down X pins σ H a cls d s) : Fresh0 X a where
  h0 := D.fresh
  t := fun xs e => by have q := D.inv.base.tups a xs e; rw [D.free] at q; cases q
  f := fun o k e => by have q := D.inv.base.frzs a o k e; rw [D.free] at q; cases q
  b := fun ps e => by obtain ⟨m, q⟩ := D.inv.base.tbls a ps e; rw [D.free] at q; cases q
theorem fromH (I : Inv (suiteH X a oe) pins σ H s) (ok : X.Ok) (fr : Fresh0 X a) : Inv X pins σ H s := by
  have u := I.base
  have ne : ∀ {b o}, X.s_0.heap.get? b = some o → b ≠ a := fun {b o} e z => by rw [z, fr.h0] at e; cases e
  have new : ∀ {b o}, X.s_0.heap.get? b = some o → X.H_0 b = none → upd X.H_0 a (excHO a oe) b = none := fun {b o} e n => (upd_ne (ne e)).trans n
  refine ⟨ok, I.os, I.bare, ⟨fun b o e n => u.keep b o e (new e n), fun b o e n => u.slot b o e (new e n), fun b o e n => u.free b o e (new e n), u.there, fun b xs e => u.tups b xs ((upd_ne fun z => ?_).trans e), fun b o k e => u.frzs b o k ((upd_ne fun z => ?_).trans e), fun b ps e => u.tbls b ps ((upd_ne fun z => ?_).trans e)⟩, I.loc, I.cell, I.free, I.freeC, I.pin, I.hok, I.len⟩
  · exact fr.t xs (z ▸ e)
  · exact fr.f o k (z ▸ e)
  · exact fr.b ps (z ▸ e)
end
section
variable {X : Cx} {x n : Str} {c : Value} {i : Nat} {body suite : List Stmt} {b₀ : Stmt} {np pos pos' : Pos} {tb : WX → TS} {ts : Addr → TS}
/-- try: body / except x as n: suite, the suite calls defs -/
theorem ps_tryAsH (hex : X.ex = []) (hs : X.stack = X.env :: X.outer) (hf : X.env.frame = some X.env.locals) (hN : X.N.Nodup) (hi : X.N[i]? = some n) (hln : X.env.kindOf n = some .local) (hc : Names X x c)
    (hb : ∀ (W : WX) (pn : List (Addr × Obj)) (xe : Value → Shared → Prop), L2N.Takes (X.tr pn xe) W → PassesOwn (model X.prog X.w) X.A X.env xe → PSs (X.tr pn xe) body (tb W))
    (hsu : ∀ (a : Addr) (oe : Obj), HotQ (suiteH X a oe) → PSs (suiteH X a oe) (b₀ :: suite) (ts a)) :
    PS X (.Try body [.ExceptHandler (some (.Name x np)) (some n) (b₀ :: suite) pos'] [] [] pos) (fun D σ H => tb (wT X.K c (some i) ts D) D σ H) := by
  refine try_run hex hs hf hb fun pins σ H s a cls d D D' w ok => ?_
  refine wpAny_handleBy_cons (codeAny_handlers_test (clause_at hc D' w.1 ?_)) (fun q => nomatch q)
  refine codeAny_handlers_suite_as (D'.again fun h4 D4 => ?_)
  obtain ⟨oe, vs, z1, z2, S⟩ := D4.suite
  have fr := D4.fresh0
  have S' := toH (oe := oe) S upd_same D4.fresh D4.fs
  have hq : HotQ (suiteH X a oe) := ⟨a, oe, _, vs, rfl, upd_same, z2, z1.2.2 vs z2⟩
  refine store_ok (X := suiteH X a oe) (v := .ref a) S' hN hi (.inl hln) rfl (fun s5 S5 => ?_) (.inr hln)
  refine wpAny_mono ((hsu a oe hq).run pins s5 _ _ _ S5 (w.2 a oe vs D4.free z1 z2)) (fun f s6 q => ?_) (fun _ _ z => z.elim)
  have fin : ∀ {σ6 : L2.St} {H6 : Hp} {Q : Shared → Prop}, Inv (suiteH X a oe) pins σ6 H6 s6 → (∀ s7, Inv X pins (σ6.set i none) H6 s7 → Q s7) →
      wpAny (model X.prog X.w) X.A (do bindName X.env n .none; unbindBehindTheSuite X.env n pos') (fun _ s7 => Q s7) X.xe s6 := fun {σ6 H6 Q} S6 hq => gone_ok (fromH S6 ok fr) hN hi hln hq
  cases f with
  | next => obtain ⟨σ6, H6, S6, q6⟩ := q; exact fin S6 fun s7 J => ⟨_, _, J, q6⟩
  | brk => obtain ⟨σ6, H6, S6, q6⟩ := q; exact fin S6 fun s7 J => ⟨_, _, J, q6⟩
  | cont => obtain ⟨σ6, H6, S6, q6⟩ := q; exact fin S6 fun s7 J => ⟨_, _, J, q6⟩
  | ret u => obtain ⟨v6, σ6, H6, S6, r6, q6⟩ := q; exact fin S6 fun s7 J => ⟨_, _, _, J, r6, q6⟩
end
section
variable {X : Cx} {rs cs : List Str} {c n : Str} {i : Nat} {body suite : List Stmt} {b₀ : Stmt} {np pos pos' : Pos} {b : XS} {sr : AS}
theorem ds_tryAsH (xt : ExT X.K X.mg rs cs) (hcs : c ∈ cs) (hrs : rs ≠ []) (hN : X.N.Nodup)
    (hb : ∀ (W : WX) (pn : List (Addr × Obj)) (xe : Value → Shared → Prop), L2N.Takes (X.tr pn xe) W → PassesOwn (model X.prog X.w) X.A X.env xe → DXs (X.tr pn xe) W body b) (hsu : ∀ (a : Addr) (oe : Obj), HotQ (suiteH X a oe) → DSs (suiteH X a oe) (b₀ :: suite) sr)
    (hex : X.ex = [] := by rfl) (hs : X.stack = X.env :: X.outer := by rfl) (hf : X.env.frame = some X.env.locals := by rfl) (hi : X.N[i]? = some n := by rfl) (hln : X.env.kindOf n = some .local := by rfl) (hg : Gl X c := by rfl) (hdb : (c == ("__debug__" : Str)) = false := by decide) :
    DS X (.Try body [.ExceptHandler (some (.Name c np)) (some n) (b₀ :: suite) pos'] [] [] pos) (dTry rs b c i sr) := by
  obtain ⟨r0, hr0⟩ := List.exists_mem_of_ne_nil rs hrs
  obtain ⟨_, C, _, hC, hmC, _⟩ := xt.pair hr0 hcs
  refine ps_imp (ps_tryAsH hex hs hf hN hi hln (c := .ref C) ⟨hg, hdb, .inl hmC⟩ (tb := fun W => cX X.K W b) (ts := fun _ => cS X.K sr) hb hsu) fun D σ H ⟨F, ro, E, m, Da, cm, ce, hf, p⟩ => ?_
  refine ⟨F, ro, E, m, Da, _, cm, ce, hf, p, fun F1 ro1 H1 σ1 E1 m1 nm B dd pl g1 c1 ce1 hn hdd ⟨h1, h2, h3⟩ => ?_⟩
  obtain ⟨B', C', hB', hC', _, _, hx⟩ := xt.pair h1 hcs
  cases hn.symm.trans hB'
  cases hC.symm.trans hC'
  refine ⟨by rw [hx, h2], fun a oe vs ha hz hd => ?_⟩
  obtain ⟨c2, g2⟩ := c1.known ha (excHO a oe)
  have g12 := g1.trans g2
  refine ⟨upd F1 a (excHO a oe), ro1, E1.set i (some (.o (.exc nm pl))), m1, _, c2, (ce1.mono g2).set i (u := .o (.exc nm pl)) (v := .ref a) ⟨a, oe, _, rfl, upd_same, ⟨⟨B, hz.1, hn⟩, ⟨vs, hd, hz.2.2 vs hd⟩⟩, by rw [hz.2.1]; exact hdd.mono g2.ex⟩, h3, ?_⟩
  exact ⟨post_unset (p.nx.at g12) i, p.rt.at g12, post_unset (p.bk.at g12) i, post_unset (p.ct.at g12) i⟩
end
/-! ### the defs called there -/
structure FnGH (P : Program) (w : World) (K : PySem.W.Frag) (mg : Str → Option Value) (base : Heap) (k : Nat) (f : Addr) (fd : FuncData) (ps : List Str) (a : ASp) : Prop where
  len : ∀ us m Q, a us m Q → us.length = ps.length
  run : ∀ (A : Around) (outer : List Env) (s : Shared) (H : Hp) (args : Args) (us : List Value) (vs : List V) (Q : VK) (E : XK), RoomH k A → A.guards = some [] → HotS A H → Env0 P w K mg base A outer s H → BindsTo s fd args (ps.zip us) → Vals vs us → cSp K a vs H Q E →
    codeAny (model P w) A (.call (.ref f) args) (CR CX0 outer P w H s Q E) s
structure CalH (P : Program) (w : World) (K : PySem.W.Frag) (mg : Str → Option Value) (base : Heap) (k : Nat) (x : Str) (ps : List Str) (a : ASp) : Prop where
  ex : ∃ f fd, FnGH P w K mg base k f fd ps a ∧ mg x = some (.ref f) ∧ PySem.W.keepIn K (.ref f) = true ∧ Binds K fd ps []
theorem CalH.mk' {P : Program} {w : World} {K : PySem.W.Frag} {mg : Str → Option Value} {base : Heap} {k : Nat} {x0 : Str} {st : Stmt} {ps : List Str} {a : ASp} {N : List Str} {g : AS} (d : Dfn K mg x0 st ps) (S : FnScope N ps (defScope st)) (len : ∀ us m Q, a us m Q → us.length = ps.length)
    (body : ∀ (f : Addr) (cdv : Value) (A : Around) (outer : List Env) (s : Shared) (H : Hp) (E : XK) (p : Addr × Obj), RoomH k (A.deeper (envOfC x0 (defScope st) s.heap.objs.size f cdv)) → (A.deeper (envOfC x0 (defScope st) s.heap.objs.size f cdv)).guards = some [] →
      HotQ (cxH CX0 P w K mg base N x0 (defScope st) f cdv A outer s H E p).nox → DSs (cxH CX0 P w K mg base N x0 (defScope st) f cdv A outer s H E p).nox (defBody st) g)
    (sem : ∀ us m Q, a us m Q → g (endsD m.length Q) (startU N.length us) m) : CalH P w K mg base (k + 1) x0 ps a := by
  obtain ⟨f, fd, Fn, hm, hb⟩ := d.ex
  refine ⟨f, fd, ⟨len, fun A outer s H args us vs Q E hr hg hot e0 hbt r hsp => ?_⟩, hm, Fn.kp, hb⟩
  obtain ⟨oc, od, kV, doc, pm, an, cdv, ct, osl, rfl, lk, hcd⟩ := Fn.ex
  obtain ⟨F0, ro, m, us', Qa, cm, iu, ha, p⟩ := hsp
  have hl : vs.length = ps.length := by rw [← iu.length]; exact len _ _ _ ha
  have hpl : ps.length ≤ N.length := by have := congrArg List.length S.pre; rw [List.length_take] at this; omega
  have KX : K.In s.heap := e0.mod.kin.keeps fun b o e => (e0.bs b o e).1
  have lim : s.heap.NoLimit := e0.mod.nolimit.keeps fun b o e => (e0.bs b o e).1
  have hkind : ∀ y ∈ ps.zip us, (defScope st).names.lookup y.1 = some .local ∨ ((defScope st).names.lookup y.1 = some .cell ∧ ((cellsFrom (s.heap.objs.size + 1) (defScope st).names []).lookup y.1).isSome = true) := fun ⟨n, v⟩ hy => by
    rcases S.par n (List.of_mem_zip hy).1 with q | q
    · exact .inl q
    · exact .inr ⟨q, PySem.W.cellsFrom_some _ _ _ (.inl q)⟩
  refine codeAny_call_function hr.depth (KX _ _ lk) rfl S.co S.gen rfl (PySem.W.codeRec_of KX hcd) (hbt _ _ _ _ ?_)
  refine wpAny_newFunctionEnv_cells S.kind hkind fun env he s1 x => ?_
  subst he
  refine ⟨lim.keeps x.toInCall.keep, codeAny_func ?_⟩
  have kb := e0.mod.kin _ _ lk
  obtain ⟨pp, pin⟩ : ∃ pp, PinOk outer H s pp := ⟨(f, _), KX _ _ lk, (e0.bs _ _ kb).2, fun hm => (by have z := (e0.funs.mem hm).1; rw [kb] at z; cases z), fun v z => nomatch z⟩
  have I := inv_startH (CX := CX0) (E := E) S pin e0 hl r x
  have hq : HotQ (cxH CX0 P w K mg base N x0 (defScope st) f cdv A outer s H E pp).nox := hot
  have ht := PSs.nox (body f cdv A outer s H E pp (hr.deeper _) hg hq)
  obtain ⟨ce, mt⟩ := start_parts (N := N) cm iu (show vs.length ≤ N.length by omega) p
  refine wpAny_mono (ht.run [] s1 (L2.start N vs) H { nx := fun _ H' => Q .non H', rt := Q } I ⟨F0, ro, startU N.length us', m, endsD m.length Qa, cm, ce, sem us' m Qa ha, mt⟩) (fun fl s' hs => ?_) fun e s' hs => hs
  cases fl with
  | ret u =>
    obtain ⟨v, σ', H', J, rv, q⟩ := hs
    exact ⟨v, H', J.os, J.bare, J.base, J.hok, rv, q⟩
  | next =>
    obtain ⟨σ', H', J, q⟩ := hs
    exact ⟨V.non, H', J.os, J.bare, J.base, J.hok, rfl, q⟩
  | brk =>
    obtain ⟨_, _, _, q⟩ := hs
    exact False.elim q
  | cont =>
    obtain ⟨_, _, _, q⟩ := hs
    exact False.elim q
theorem roomHot {k : Nat} {A : Around} {v : Option Value} (r : Room k A) : RoomH k (A.mark v) := ⟨r.dp, r.un⟩
theorem u66H {A : Around} {k : Nat} (h : RoomH k A) : A.units + 66 < cLine := by
  have := h.un
  omega
theorem _root_.L2H.RoomH.units {A : Around} {k : Nat} (h : RoomH k A) : A.units + 64 < cLine := by
  have := h.un
  omega
section
variable {X : Cx} {k j : Nat} {ps : List Str} {a : ASp} {x : Str} {p pos : Pos} {e : Expr} {es : List Expr} {g : AA}
theorem de_calH (c : CalH X.prog X.w X.K X.mg X.base k x ps a) (hr : RoomH j X.A) (hgd : X.A.guards = some []) (hot : HotQ X) (ha : DA X (e :: es) g) (hk : k ≤ j := by decide) (hg : Gl X x := by rfl)
    (hdb : (x == ("__debug__" : Str)) = false := by decide) (he : starEach (e :: es) X.env = (false, eval e X.env) :: starEach es X.env := by rfl) (hpl : (backTo pos (starEach es X.env)).any (·.1) = false := by rfl) :
    DE X (.Call (.Name x p) (e :: es) [] pos) (dCall a g) := by
  obtain ⟨f, fd, F, hm, kp, hb⟩ := c.ex
  refine ⟨fun pins s σ H Q I h => ?_⟩
  obtain ⟨F0, ro, E, m, Qa, cm, ce, hf, po⟩ := h
  refine wpAny_Call_Name_kw (ld_glob I hg hm ?_ hdb)
  refine PySem.W.callWith_K (h₀ := X.base) I.ok.mod.kin kp (thn (ha.run pos pins s σ H (fun vs H1 => cSp X.K a vs H1 Q E0) I ⟨F0, ro, E, m, _, cm, ce, hf, fun F1 ro1 H1 us vs m1 g1 c1 i1 h1 => ⟨F1, ro1, m1, us, Qa, c1, i1, h1, po.at g1⟩⟩) fun us s1 ⟨vs, H1, I1, r, q⟩ => ⟨I1.kIn, ?_⟩) he hpl
  have hl : us.length = ps.length := by
    obtain ⟨F', ro', m', us', Qa', _, iu, ha', _⟩ := q
    rw [← r.length, ← iu.length]
    exact F.len _ _ _ ha'
  have hb' := hb s1 us I1.kIn (by simpa using hl)
  rw [List.append_nil] at hb'
  refine wpAny_call (codeAny_mono (F.run X.A X.stack s1 H1 ⟨us, []⟩ us vs Q E0 (hr.mono hk) hgd (hot.now I1) I1.env0 hb' r q) fun r s' hq => ?_)
  cases r with
  | error e => exact hq.elim
  | ok fl =>
    cases fl with
    | ret u => exact I1.after hq
    | next => exact False.elim hq
    | brk => exact False.elim hq
    | cont => exact False.elim hq
end
end Z
/-! YV: a dict compared with a list by !=. -/
namespace PySem.SeqAt
open AutoSeq1 (wpAny_loadPart')
open MeetsSeq MeetsSeq2 MeetsSeq3 SeqRoads2
section
theorem z_list_ne_dict (l b : Addr) (xs : Array Value) (n : Nat) (d1 d2 : Option Addr) (sl sl2 : Array (Option Value)) (es : Array DictEntry) (ep : Nat) :
    Meets (Builtin.«list.__ne__» ⟨[.ref l, .ref b], []⟩) (fun _ R s => s.heap.get? l = some { cls := .type "list", dict := d1, data := .seq xs n, slots := sl } ∧ s.heap.get? b = some { cls := .type "dict", dict := d2, data := .dict es ep, slots := sl2 } ∧ R (.ok (.ret .notImplemented)) s) :=
  .of_wp fun prog w A R s h => by obtain ⟨hp, g, d, tk, os⟩ := s; obtain ⟨hl, hb, h⟩ := h; have f1 := F.sub_dict_list; wp_walk using wpAny_loadPart' hl, wpAny_loadPart' hb; exact ⟨_, rfl, h⟩
theorem z_ne_dict_list {prog : Program} {w : World} {A : Around} {s : Shared} {E Q : Value → Shared → Prop} {a b : Addr} {xs : Array Value} {o : Obj} {es : Array DictEntry} {ep : Nat} (ha : s.heap.get? a = some o) (hc : o.cls = .type "dict") (hd : o.data = .dict es ep) (hb : s.heap.IsList b xs) (hu : A.units < cLine) (h : Q (.bool true) s) :
    wpAny (model prog w) A (richCompare .NotEq (.ref a) (.ref b)) Q E s := by
  have hne : a ≠ b := fun z => by
    obtain ⟨ol, hl, hcl, n, hdl⟩ := hb
    rw [z, hl] at ha
    cases ha
    rw [hd] at hdl
    cases hdl
  obtain ⟨⟨cls2, dd2, data2, sl2⟩, ho2, hc2, n2, hd2⟩ := id hb
  obtain ⟨cls, dd, data, sl⟩ := o
  simp only at hc hd hc2 hd2
  subst hc hd hc2 hd2
  refine (rc_ne_decline_or (k := false) ⟨_, ha, rfl⟩ ⟨_, ho2, rfl⟩ (by decide) F.sub_list_dict F.slot_dict_ne F.slot_list_ne_refl (fun Q' hq => ?_)
    (fun _ hq => call_meets F.slot_list_ne_refl ⟨_, ho2, rfl⟩ F.entry_list_ne (F.args_list_ne_2 _ _) (z_list_ne_dict b a xs n2 dd2 dd sl2 sl es ep) ⟨ho2, ha, hq⟩)
    (fun _ hq => wpAny_isSame_ref_other hne ha ho2 (by simp) hq) (.inr hu) h)
  refine wpAny_call_entry F.slot_dict_ne ⟨_, ha, rfl⟩ F.entry_dict_ne ?_ (F.args_dict_ne_2 _ _)
  show wpAny _ _ (Builtin.Dict.dictSlotArgs "__ne__" ⟨[.ref a, .ref b], []⟩ >>= _) _ _ s
  refine wpAny_bind ?_
  unfold Builtin.Dict.dictSlotArgs
  refine wpAny_bind (wpAny_notOrdered_dict ⟨_, ha, rfl⟩ ?_)
  show wpAny _ _ (pure (Value.ref a, Value.ref b)) _ _ s
  refine wpAny_pure ?_
  refine wpAny_bind (wpAny_isInstance (T := "list") ⟨_, ho2, rfl⟩ F.sub_list_dict ?_)
  simp only [Bool.not_false, if_true]
  exact wpAny_bind (wpAny_rule (wpAny_pure ⟨_, rfl, hq⟩))
end
end PySem.SeqAt

namespace Z
open PySem PySem.Spec PyProof.Rows L2
def rNeDL (K : PySem.W.Frag) : R2 := fun x y H Q => ∃ a b ks xs, x = .ref a ∧ y = .ref b ∧ H a = some (.dK ks) ∧ SqL K H b xs ∧ Q (.bl true) H
theorem op_neDL {X : Cx} (hu : X.A.units + 64 < cLine) : OpR X (compareOp .NotEq) (rNeDL X.K) := by
  intro pins s σ H x y v u Q I rx ry h
  obtain ⟨a, b, ks, xs, rfl, rfl, ha, hb, q⟩ := h
  cases (show v = Value.ref a from rx)
  cases (show u = Value.ref b from ry)
  obtain ⟨us, r1, p1, _⟩ := I.list hb
  obtain ⟨_, _, vs, _, o, es, ep, h1, h2, h3, _⟩ := I.hok a _ ha
  exact SeqAt.z_ne_dict_list h1 h2.1 h3 p1.isList (show X.A.units < cLine by omega) ⟨.bl true, H, I, rfl, q⟩
/-- !=, also of a dict and a list -/
def aNeX : R2A := fun a b m Q => match a, b with
  | .v (.dict _), .v (.list _) => Q (.v (.bool true)) m
  | a, b => aNe a b m Q
def rNeY (K : PySem.W.Frag) : R2 := fun x y H Q => rNeX K x y H Q ∨ rNeDL K x y H Q
theorem op_neY {X : Cx} (hu : X.A.units + 64 < cLine) : OpR X (compareOp .NotEq) (rNeY X.K) := (op_neX hu).or (op_neDL hu)
theorem sim_neY {K : PySem.W.Frag} : Sim2 K (rNeY K) aNeX := by
  intro F ro H m a b v w Q Qa c ia ib h p
  unfold aNeX at h
  split at h
  · cases ia with
    | dct h1 h2 =>
      cases ib with
      | lst h3 h4 => exact .inr ⟨_, _, _, _, rfl, rfl, c.ex _ _ h1, .inl (.inl (c.ex _ _ h3)), p.god c (.bl true) h⟩
  · exact .inl (sim_ne F ro H m a b v w Q Qa c ia ib h p)
end Z
/-! printed by genp.py: the readings of the program's own defs -/
namespace Z.P
open PySem PySem.Spec PyProof.Rows L2 Z
/-- 0 value, 1 low, 2 high: k01 k02 k03 k04 k05 k06 k07 k08 k09 k10 k11 k12 k13 k14 k15 k16 k17 k18 k19 k20 k21 k22 k23 k24 k25 k26 k27 k28 k29 k30 k31 k32 k33 k34 k35 k36 k37 k38 k39 k40 k41 k42 k43 k44 k45 k46 k47 k48 k49 k51 k52 k53 k54 k55 k56 k57 k58 k59 k60 k61 k66 k67 k68 k69 k70 k71 k72 k73 k74 k75 k76 k77 k78 k79 k80 k81 k82 k83 -/
def g_is_integer : AS :=
  (dRet (dAndV (dIsi "int" (dVar 0)) (dAndV (dNotV (dIsi "bool" (dVar 0))) (dChain (aB fun i j => decide (i ≤ j)) (aB fun i j => decide (i ≤ j)) (dVar 1) (dVar 0) (dVar 2)))))
/-- 0 value, 1 entry, 2 link: k01 k02 k03 k04 k05 k06 k07 k08 k09 k10 k11 k12 k13 k14 k15 k16 k17 k18 k20 k21 k22 k23 k27 k28 k30 k31 k32 k33 k34 k35 k36 k37 k38 k39 k40 k41 k42 k43 k44 k46 k48 k49 k56 k57 k58 k59 k60 k61 k66 k67 k68 k69 k70 k71 k72 k73 k74 k75 k76 k77 k78 k79 k80 k81 k82 -/
def g_have_form (a_is_integer : ASp) : AS :=
  (dSeq (dIfS (dOr (dNot (dB (dIsi "list" (dVar 0)))) (dNot (dB (dChain (aB fun i j => decide (i ≤ j)) (aB fun i j => decide (i ≤ j)) (dC (.int 1)) (dCB aLen (dCons (dVar 0) dNil)) (dC (.int 150)))))) (dRet (dC (.bool false))) dNext)
  (dRet (dCB aAll (dCons (dLc (sEnum (dCons (dVar 0) dNil)) (gT 2 (gN1 (gN 1) (gN1 (gN 2) gN0))) dYes (dCall a_is_integer (dCons (dVar 2) (dCons (dC (.int 0)) (dCons (dCB aMax (dCons (dC (.int 0)) (dCons (dOp aSub (dVar 1) (dC (.int 1))) dNil))) dNil)))) [1, 2]) dNil))))
def b1_least_crossing : AS :=
  (dIfS (dB (dChain (aB fun i j => decide (i < j)) (aB fun i j => decide (i < j)) (dVar 2) (dOp aIx (dVar 0) (dVar 3)) (dVar 1))) (dRet (dTup (dCons (dVar 1) (dCons (dVar 3) dNil)))) dNext)
def b2_least_crossing : AS :=
  (dFor (sRng2 (dCons (dOp (aAdd false) (dVar 1) (dC (.int 1))) (dCons (dCB aLen (dCons (dVar 0) dNil)) dNil))) (gN 3)
  (b1_least_crossing))
/-- 0 links, 1 entry, 2 link, 3 other: k01 k02 k03 k04 k05 k06 k07 k08 k09 k10 k11 k12 k13 k14 k15 k16 k17 k18 k20 k21 k22 k23 k27 k28 k30 k31 k32 k33 k34 k35 k36 k37 k38 k39 k40 k41 k42 k43 k44 k46 k48 k49 k56 k57 k58 k59 k60 k61 k66 k67 k68 k69 k70 k71 k72 k73 k74 k75 k76 k77 k78 k79 k80 k81 k82 -/
def g_least_crossing : AS :=
  (dSeq (dFor (sEnum (dCons (dVar 0) dNil)) (gT 2 (gN1 (gN 1) (gN1 (gN 2) gN0)))
  (b2_least_crossing))
  (dRet (dC .none)))
/-- 0 value: k01 k03 k04 k05 k06 k07 k08 k09 k10 k11 k12 k13 k14 k15 k16 k17 k18 k20 k21 k22 k23 k27 k28 k30 k31 k32 k33 k34 k35 k36 k37 k38 k39 k40 k41 k42 k43 k44 k46 k48 k49 k56 k57 k58 k59 k60 k61 k66 k67 k68 k69 k70 k71 k72 k73 k74 k75 k76 k77 k78 k79 k80 k81 k82 -/
def g_is_log (a_have_form a_least_crossing : ASp) : AS :=
  (dRet (dAndV (dCall a_have_form (dCons (dVar 0) dNil)) (dIsN (dCall a_least_crossing (dCons (dVar 0) dNil)))))
/-- 0 script, 1 k, 2 cell: k01 k02 k03 k04 k05 k06 k07 k08 k09 k10 k11 k12 k13 k14 k15 k16 k17 k18 k24 k25 k26 k27 k28 k29 k30 k31 -/
def g_law_vat : AS :=
  (dSeq (dAsg 2 (dIf (dB (dOp (aB fun i j => decide (i < j)) (dVar 1) (dCB aLen (dCons (dVar 0) dNil)))) (dOp aIx (dVar 0) (dVar 1)) (dC (.int 0))))
  (dRet (dLstM (dCons (dCB aMax (dCons (dC (.int 0)) (dCons (dOp aSub (dCB aAbs (dCons (dVar 2) dNil)) (dOp aPow (dC (.int 10)) (dC (.int 18)))) dNil))) (dCons (dOp (aAdd false) (dOp (aAdd false) (dOp (aMul false) (dOp aMod (dVar 2) (dOp (aAdd false) (dOp aPow (dC (.int 10)) (dC (.int 40))) (dC (.int 121)))) (dC (.int 31))) (dOp (aMul false) (dC (.int 25013)) (dVar 1))) (dC (.int 9))) (dCons (dC (.int 0)) dNil))))))
/-- 0 vat, 1 many, 2 found, 3 drop: k01 k02 k03 k04 k05 k06 k07 k08 k09 k10 k11 k12 k13 k14 k15 k16 k17 k18 k24 k25 k26 k27 k28 k29 k30 k31 -/
def g_law_drip : AS :=
  (dSeq (dIfS (dB (dOp (aB fun i j => decide (j < i)) (dOp aIx (dVar 0) (dC (.int 0))) (dC (.int 0)))) (dSeq (dAsg 2 (dOp aMod (dOp aIx (dVar 0) (dC (.int 0))) (dVar 1)))
  (dSeq (dSetIx (dOp aDiv (dOp aIx (dVar 0) (dC (.int 0))) (dVar 1)) (dVar 0) (dC (.int 0)))
  (dRet (dVar 2)))) dNext)
  (dSeq (dSetIx (dOp (aAdd false) (dOp aIx (dVar 0) (dC (.int 2))) (dC (.int 1))) (dVar 0) (dC (.int 2)))
  (dSeq (dAsg 3 (dOp aMod (dOp aPow (dOp (aAdd false) (dOp aIx (dVar 0) (dC (.int 1))) (dOp (aMul false) (dC (.int 2654435761)) (dOp aIx (dVar 0) (dC (.int 2))))) (dC (.int 3))) (dOp (aAdd false) (dOp aPow (dC (.int 10)) (dC (.int 43))) (dC (.int 57)))))
  (dSeq (dAsg 3 (dOp aMod (dOp aPow (dOp (aAdd false) (dVar 3) (dOp (aMul false) (dC (.int 1500450271)) (dOp aIx (dVar 0) (dC (.int 2))))) (dC (.int 3))) (dOp (aAdd false) (dOp aPow (dC (.int 10)) (dC (.int 42))) (dC (.int 63)))))
  (dRet (dOp aMod (dOp aDiv (dVar 3) (dC (.int 1000253))) (dVar 1)))))))
def b1_law_log (a_law_drip : ASp) : AS :=
  (dSeq (dAsg 6 (dOp aSub (dCB aLen (dCons (dVar 3) dNil)) (dC (.int 1))))
  (dSeq (dAsg 7 (dLst (dCons (dCall a_law_drip (dCons (dVar 0) (dCons (dOp (aAdd false) (dVar 6) (dC (.int 1))) dNil))) (dCons (dVar 6) (dCons (dC (.int 0)) (dCons (dCB aMax (dCons (dC (.int 0)) (dCons (dOp aSub (dVar 6) (dCall a_law_drip (dCons (dVar 0) (dCons (dC (.int 3)) dNil)))) dNil))) dNil))))))
  (dSeq (dAsg 7 (dOp (aAdd false) (dVar 7) (dLst (dCons (dOp (aMul false) (dVar 6) (dCall a_law_drip (dCons (dVar 0) (dCons (dC (.int 2)) dNil)))) (dCons (dOp aDiv (dVar 6) (dC (.int 2))) dNil)))))
  (dSeq (dAsg 8 (dIf (dB (dOp (aB fun i j => decide (j < i)) (dCall a_law_drip (dCons (dVar 0) (dCons (dC (.int 6)) dNil))) (dC (.int 0)))) (dOp aIx (dVar 7) (dVar 4)) (dCall a_law_drip (dCons (dVar 0) (dCons (dOp (aAdd false) (dVar 6) (dC (.int 1))) dNil)))))
  (dSeq (dExpr (dMeth aAppend (dVar 2) (dCons (dOp aIx (dVar 3) (dVar 8)) dNil)))
  (dAsg 3 (dOp (aAdd false) (dSl false (dVar 3) dNoPart (dPart (dOp (aAdd false) (dVar 8) (dC (.int 1))))) (dLst (dCons (dVar 5) dNil)))))))))
/-- 0 vat, 1 size, 2 found, 3 allowed, 4 way, 5 entry, 6 most, 7 spots, 8 spot: k01 k04 k05 k06 k08 k10 k11 k12 k13 k14 k15 k16 k17 k18 k24 k25 k26 k27 k28 k29 k30 k31 -/
def g_law_log (a_law_drip : ASp) : AS :=
  (dSeq (dPar3 2 3 4 (dCons (dLstM (dCons (dC (.int 0)) dNil)) (dCons (dLst (dCons (dC (.int 0)) dNil)) (dCons (dCall a_law_drip (dCons (dVar 0) (dCons (dC (.int 6)) dNil))) dNil))))
  (dSeq (dFor (sRng2 (dCons (dC (.int 1)) (dCons (dVar 1) dNil))) (gN 5)
  (b1_law_log a_law_drip))
  (dRet (dFrz (dVar 2)))))
def b1_law_log_2 (a_law_take : ASp) : AS :=
  (dSeq (dPar2 6 7 (dCons (dCall a_law_take (dCons (dVar 0) (dCons (dCB aLen (dCons (dVar 3) dNil)) dNil))) (dCons (dCB aMax (dCons (dC (.int 0)) (dCons (dOp aSub (dOp aSub (dCB aLen (dCons (dVar 3) dNil)) (dC (.int 1))) (dCall a_law_take (dCons (dVar 0) (dCons (dC (.int 3)) dNil)))) dNil))) dNil)))
  (dSeq (dAsg 8 (dOp aIx (dLst (dCons (dOp aSub (dCB aLen (dCons (dVar 3) dNil)) (dC (.int 1))) (dCons (dC (.int 0)) (dCons (dVar 6) (dCons (dVar 7) (dCons (dCB aMax (dCons (dC (.int 0)) (dCons (dOp aSub (dCB aLen (dCons (dVar 3) dNil)) (dC (.int 2))) dNil))) dNil)))))) (dVar 4)))
  (dSeq (dIfS (dB (dOp (aEq) (dCall a_law_take (dCons (dVar 0) (dCons (dC (.int 6)) dNil))) (dC (.int 0)))) (dAsg 8 (dVar 6)) dNext)
  (dSeq (dExpr (dMeth aAppend (dVar 2) (dCons (dOp aIx (dVar 3) (dVar 8)) dNil)))
  (dAsg 3 (dOp (aAdd false) (dSl false (dVar 3) dNoPart (dPart (dOp (aAdd false) (dVar 8) (dC (.int 1))))) (dLst (dCons (dVar 5) dNil))))))))
/-- 0 pot, 1 size, 2 found, 3 seen, 4 style, 5 entry, 6 any_one, 7 near, 8 at: k32 k33 k34 k35 k36 k37 k38 k39 k40 k41 k42 k43 k45 k47 k48 k49 -/
def g_law_log_2 (a_law_take : ASp) : AS :=
  (dSeq (dPar3 2 3 4 (dCons (dLstM (dCons (dC (.int 0)) dNil)) (dCons (dLst (dCons (dC (.int 0)) dNil)) (dCons (dCall a_law_take (dCons (dVar 0) (dCons (dC (.int 5)) dNil))) dNil))))
  (dSeq (dFor (sRng2 (dCons (dC (.int 1)) (dCons (dVar 1) dNil))) (gN 5)
  (b1_law_log_2 a_law_take))
  (dRet (dFrz (dVar 2)))))
def t1_law_log_3 (a_law_take a_law_allowed a_law_pick : ASp) : AT :=
  (dB (dOp (aB fun i j => decide (i < j)) (dCB aLen (dCons (dVar 2) dNil)) (dVar 1)))
def b1_law_log_3 (a_law_take a_law_allowed a_law_pick : ASp) : AS :=
  (dSeq (dAsg 4 (dCall a_law_allowed (dCons (dVar 2) dNil)))
  (dSeq (dAsg 5 (dLst (dCons (dOp aIx (dVar 4) (dUn aNeg (dC (.int 1)))) (dCons (dOp aIx (dVar 4) (dC (.int 0))) (dCons (dCall a_law_pick (dCons (dVar 0) (dCons (dVar 4) dNil))) (dCons (dOp aIx (dVar 4) (dCB aMax (dCons (dC (.int 0)) (dCons (dOp aSub (dCB aLen (dCons (dVar 4) dNil)) (dC (.int 2))) dNil)))) (dCons (dCall a_law_pick (dCons (dVar 0) (dCons (dSl false (dVar 4) (dPart (dUn aNeg (dC (.int 3)))) dNoPart) dNil))) dNil)))))))
  (dExpr (dMeth aAppend (dVar 2) (dCons (dOp aIx (dLst (dCons (dOp aIx (dVar 5) (dVar 3)) (dCons (dCall a_law_pick (dCons (dVar 0) (dCons (dVar 4) dNil))) dNil))) (dCB aInt (dCons (dOp (aEq) (dCall a_law_take (dCons (dVar 0) (dCons (dC (.int 5)) dNil))) (dC (.int 0))) dNil))) dNil)))))
/-- 0 bag, 1 size, 2 links, 3 style, 4 able, 5 some: k58 k60 k61 k73 k74 k75 k76 k77 -/
def g_law_log_3 (a_law_take a_law_allowed a_law_pick : ASp) : AS :=
  (dSeq (dPar2 2 3 (dCons (dLstM (dCons (dC (.int 0)) dNil)) (dCons (dCall a_law_take (dCons (dVar 0) (dCons (dC (.int 5)) dNil))) dNil)))
  (dSeq (dWhile (t1_law_log_3 a_law_take a_law_allowed a_law_pick) (b1_law_log_3 a_law_take a_law_allowed a_law_pick))
  (dRet (dFrz (dVar 2)))))
def b1_law_log_4 (a_law_drip : ASp) : AS :=
  (dSeq (dAsg 6 (dOp aSub (dCB aLen (dCons (dVar 3) dNil)) (dC (.int 1))))
  (dSeq (dAsg 7 (dLst (dCons (dCall a_law_drip (dCons (dVar 0) (dCons (dOp (aAdd false) (dVar 6) (dC (.int 1))) dNil))) (dCons (dVar 6) (dCons (dC (.int 0)) (dCons (dCB aMax (dCons (dC (.int 0)) (dCons (dOp aSub (dVar 6) (dCall a_law_drip (dCons (dVar 0) (dCons (dC (.int 3)) dNil)))) dNil))) dNil))))))
  (dSeq (dAsg 7 (dOp (aAdd false) (dVar 7) (dLst (dCons (dOp (aMul false) (dVar 6) (dCall a_law_drip (dCons (dVar 0) (dCons (dC (.int 2)) dNil)))) (dCons (dOp aDiv (dVar 6) (dC (.int 2))) dNil)))))
  (dSeq (dAsg 8 (dIf (dB (dOp (aB fun i j => decide (j < i)) (dCall a_law_drip (dCons (dVar 0) (dCons (dC (.int 6)) dNil))) (dC (.int 0)))) (dOp aIx (dVar 7) (dVar 4)) (dCall a_law_drip (dCons (dVar 0) (dCons (dOp (aAdd false) (dVar 6) (dC (.int 1))) dNil)))))
  (dSeq (dExpr (dMeth aAppend (dVar 2) (dCons (dOp aIx (dVar 3) (dVar 8)) dNil)))
  (dAsg 3 (dOp (aAdd false) (dSl false (dVar 3) dNoPart (dPart (dOp (aAdd false) (dVar 8) (dC (.int 1))))) (dLst (dCons (dVar 5) dNil)))))))))
/-- 0 vat, 1 size, 2 found, 3 allowed, 4 way, 5 entry, 6 most, 7 spots, 8 spot: k02 k03 k07 k09 -/
def g_law_log_4 (a_law_drip : ASp) : AS :=
  (dSeq (dPar3 2 3 4 (dCons (dLstM (dCons (dC (.int 0)) dNil)) (dCons (dLst (dCons (dC (.int 0)) dNil)) (dCons (dCall a_law_drip (dCons (dVar 0) (dCons (dC (.int 6)) dNil))) dNil))))
  (dSeq (dFor (sRng2 (dCons (dC (.int 1)) (dCons (dVar 1) dNil))) (gN 5)
  (b1_law_log_4 a_law_drip))
  (dRet (dVar 2))))
def b1_law_log_5 (a_law_take : ASp) : AS :=
  (dSeq (dPar2 6 7 (dCons (dCall a_law_take (dCons (dVar 0) (dCons (dCB aLen (dCons (dVar 3) dNil)) dNil))) (dCons (dCB aMax (dCons (dC (.int 0)) (dCons (dOp aSub (dOp aSub (dCB aLen (dCons (dVar 3) dNil)) (dC (.int 1))) (dCall a_law_take (dCons (dVar 0) (dCons (dC (.int 3)) dNil)))) dNil))) dNil)))
  (dSeq (dAsg 8 (dOp aIx (dLst (dCons (dOp aSub (dCB aLen (dCons (dVar 3) dNil)) (dC (.int 1))) (dCons (dC (.int 0)) (dCons (dVar 6) (dCons (dVar 7) (dCons (dCB aMax (dCons (dC (.int 0)) (dCons (dOp aSub (dCB aLen (dCons (dVar 3) dNil)) (dC (.int 2))) dNil))) dNil)))))) (dVar 4)))
  (dSeq (dIfS (dB (dOp (aEq) (dCall a_law_take (dCons (dVar 0) (dCons (dC (.int 6)) dNil))) (dC (.int 0)))) (dAsg 8 (dVar 6)) dNext)
  (dSeq (dExpr (dMeth aAppend (dVar 2) (dCons (dOp aIx (dVar 3) (dVar 8)) dNil)))
  (dAsg 3 (dOp (aAdd false) (dSl false (dVar 3) dNoPart (dPart (dOp (aAdd false) (dVar 8) (dC (.int 1))))) (dLst (dCons (dVar 5) dNil))))))))
/-- 0 pot, 1 size, 2 found, 3 seen, 4 style, 5 entry, 6 any_one, 7 near, 8 at: k44 k46 -/
def g_law_log_5 (a_law_take : ASp) : AS :=
  (dSeq (dPar3 2 3 4 (dCons (dLstM (dCons (dC (.int 0)) dNil)) (dCons (dLst (dCons (dC (.int 0)) dNil)) (dCons (dCall a_law_take (dCons (dVar 0) (dCons (dC (.int 5)) dNil))) dNil))))
  (dSeq (dFor (sRng2 (dCons (dC (.int 1)) (dCons (dVar 1) dNil))) (gN 5)
  (b1_law_log_5 a_law_take))
  (dRet (dVar 2))))
def t1_law_log_6 (a_law_take a_law_allowed a_law_pick : ASp) : AT :=
  (dB (dOp (aB fun i j => decide (i < j)) (dCB aLen (dCons (dVar 2) dNil)) (dVar 1)))
def b1_law_log_6 (a_law_take a_law_allowed a_law_pick : ASp) : AS :=
  (dSeq (dAsg 4 (dCall a_law_allowed (dCons (dVar 2) dNil)))
  (dSeq (dAsg 5 (dLst (dCons (dOp aIx (dVar 4) (dUn aNeg (dC (.int 1)))) (dCons (dOp aIx (dVar 4) (dC (.int 0))) (dCons (dCall a_law_pick (dCons (dVar 0) (dCons (dVar 4) dNil))) (dCons (dOp aIx (dVar 4) (dCB aMax (dCons (dC (.int 0)) (dCons (dOp aSub (dCB aLen (dCons (dVar 4) dNil)) (dC (.int 2))) dNil)))) (dCons (dCall a_law_pick (dCons (dVar 0) (dCons (dSl false (dVar 4) (dPart (dUn aNeg (dC (.int 3)))) dNoPart) dNil))) dNil)))))))
  (dExpr (dMeth aAppend (dVar 2) (dCons (dOp aIx (dLst (dCons (dOp aIx (dVar 5) (dVar 3)) (dCons (dCall a_law_pick (dCons (dVar 0) (dCons (dVar 4) dNil))) dNil))) (dCB aInt (dCons (dOp (aEq) (dCall a_law_take (dCons (dVar 0) (dCons (dC (.int 5)) dNil))) (dC (.int 0))) dNil))) dNil)))))
/-- 0 bag, 1 size, 2 links, 3 style, 4 able, 5 some: k57 k59 -/
def g_law_log_6 (a_law_take a_law_allowed a_law_pick : ASp) : AS :=
  (dSeq (dPar2 2 3 (dCons (dLstM (dCons (dC (.int 0)) dNil)) (dCons (dCall a_law_take (dCons (dVar 0) (dCons (dC (.int 5)) dNil))) dNil)))
  (dSeq (dWhile (t1_law_log_6 a_law_take a_law_allowed a_law_pick) (b1_law_log_6 a_law_take a_law_allowed a_law_pick))
  (dRet (dVar 2))))
def b1_law_crossing : AS :=
  (dIfS (dB (dChain (aB fun i j => decide (i < j)) (aB fun i j => decide (i < j)) (dOp aIx (dVar 0) (dVar 1)) (dOp aIx (dVar 0) (dVar 2)) (dVar 1))) (dRet (dTup (dCons (dVar 1) (dCons (dVar 2) dNil)))) dNext)
def b2_law_crossing : AS :=
  (dFor (sRng2 (dCons (dOp (aAdd false) (dVar 1) (dC (.int 1))) (dCons (dCB aLen (dCons (dVar 0) dNil)) dNil))) (gN 2)
  (b1_law_crossing))
/-- 0 links, 1 entry, 2 other: k01 k02 k03 k04 -/
def g_law_crossing : AS :=
  (dSeq (dFor (sRng2 (dCons (dC (.int 1)) (dCons (dCB aLen (dCons (dVar 0) dNil)) dNil))) (gN 1)
  (b2_law_crossing))
  (dRet (dC .none)))
/-- 0 some: k01 k04 k06 k12 k17 k30 -/
def g_law_odd : AS :=
  (dSeq (dAsg 0 (dLst (dCons (dC .none) (dCons (dC (.int 0)) (dCons (dC (.bool true)) (dCons (dC (.str "")) (dCons (dC (.str "0 0")) (dCons (dTup dNil) (dCons (dTup (dCons (dC (.int 0)) dNil)) (dCons (dC (.dict [])) (dCons (dLst dNil) (dCons (dLst (dCons (dC (.int 1)) dNil)) (dCons (dLst (dCons (dUn aNeg (dC (.int 1))) dNil)) (dCons (dLst (dCons (dC (.bool true)) dNil)) (dCons (dLst (dCons (dC (.bool false)) dNil)) (dCons (dLst (dCons (dC .none) dNil)) (dCons (dLst (dCons (dC (.str "0")) dNil)) (dCons (dLst (dCons (dLst (dCons (dC (.int 0)) dNil)) dNil)) (dCons (dLst (dCons (dTup (dCons (dC (.int 0)) dNil)) dNil)) dNil)))))))))))))))))))
  (dSeq (dAsg 0 (dOp (aAdd false) (dVar 0) (dLst (dCons (dLst (dCons (dC (.int 0)) (dCons (dC (.int 1)) dNil))) (dCons (dLst (dCons (dC (.int 0)) (dCons (dUn aNeg (dC (.int 1))) dNil))) (dCons (dLst (dCons (dC (.int 0)) (dCons (dC (.int 0)) (dCons (dC (.int 2)) dNil)))) (dCons (dLst (dCons (dC (.int 0)) (dCons (dC (.bool true)) dNil))) (dCons (dLst (dCons (dC (.int 0)) (dCons (dC (.bool false)) dNil))) (dCons (dLst (dCons (dC (.int 0)) (dCons (dC (.int 0)) (dCons (dC (.int 0)) (dCons (dC (.int 1)) dNil))))) (dCons (dLst (dCons (dC (.int 0)) (dCons (dC .none) dNil))) (dCons (dLst (dCons (dC (.int 0)) (dCons (dC (.str "0")) dNil))) (dCons (dC (.dict [(.int 0, .int 0)])) dNil))))))))))))
  (dRet (dOp (aAdd false) (dVar 0) (dLst (dCons (dOp (aMul false) (dLst (dCons (dC (.int 0)) dNil)) (dC (.int 151))) (dCons (dLst (dCons (dC (.int 0)) (dCons (dC (.int 0)) (dCons (dC (.int 0)) (dCons (dC (.int 3)) dNil))))) (dCons (dTup (dCons (dC (.int 0)) (dCons (dC (.int 0)) dNil))) (dCons (dLst (dCons (dLst (dCons (dC (.int 0)) (dCons (dC (.int 0)) dNil))) dNil)) (dCons (dLst (dCons (dC (.int 0)) (dCons (dLst (dCons (dC (.int 0)) dNil)) dNil))) (dCons (dLst (dCons (dC (.int 0)) (dCons (dC (.int 0)) (dCons (dC (.bool true)) dNil)))) dNil)))))))))))
/-- 0 reel, 1 some: k22 k55 k67 k68 k70 -/
def g_law_odd_2 (a_law_turn : ASp) : AS :=
  (dSeq (dAsg 1 (dLst (dCons (dC .none) (dCons (dC (.bool true)) (dCons (dC (.bool false)) (dCons (dUn aNeg (dC (.int 1))) (dCons (dC (.int 151)) (dCons (dOp aPow (dC (.int 10)) (dC (.int 60))) (dCons (dC (.str "")) (dCons (dC (.str "0")) (dCons (dC (.str "a")) (dCons (dC (.str "0 1 9")) (dCons (dC (.str "-1")) (dCons (dC (.str "0 ")) (dCons (dTup dNil) (dCons (dC (.dict [])) (dCons (dLst dNil) (dCons (dLst (dCons (dC .none) dNil)) (dCons (dLst (dCons (dC (.bool true)) dNil)) (dCons (dLst (dCons (dC (.int 1)) dNil)) dNil))))))))))))))))))))
  (dSeq (dAsg 1 (dOp (aAdd false) (dVar 1) (dLst (dCons (dLst (dCons (dC (.int 0)) (dCons (dC (.bool true)) dNil))) (dCons (dLst (dCons (dC (.int 0)) (dCons (dUn aNeg (dC (.int 1))) dNil))) (dCons (dLst (dCons (dC (.int 0)) (dCons (dC (.int 1)) dNil))) (dCons (dLst (dCons (dC (.str "0")) dNil)) (dCons (dLst (dCons (dC (.int 0)) (dCons (dC (.int 0)) (dCons (dC (.int 0)) (dCons (dC (.int 1)) dNil))))) (dCons (dTup (dCons (dC (.int 0)) dNil)) (dCons (dLst (dCons (dC (.int 0)) (dCons (dLst (dCons (dC (.int 0)) dNil)) dNil))) (dCons (dLst (dCons (dC (.int 0)) (dCons (dC .none) dNil))) (dCons (dC (.dict [(.str "0", .int 0)])) (dCons (dLst (dCons (dLst (dCons (dC (.int 0)) dNil)) dNil)) dNil)))))))))))))
  (dSeq (dAsg 1 (dOp (aAdd false) (dVar 1) (dLst (dCons (dOp (aMul false) (dLst (dCons (dC (.int 0)) dNil)) (dC (.int 151))) (dCons (dLst (dCons (dC (.int 0)) (dCons (dC (.int 0)) (dCons (dC (.str "1")) dNil)))) (dCons (dLst (dCons (dC (.bool false)) dNil)) (dCons (dC (.str "0 0 1")) (dCons (dC (.str "00")) (dCons (dC (.str ">")) (dCons (dC (.str "-0")) (dCons (dC (.str "+1")) (dCons (dC (.dict [(.int 0, .int 0)])) (dCons (dLst (dCons (dC (.int 0)) (dCons (dC (.int 0)) (dCons (dC (.int 2)) (dCons (dC (.int 1)) dNil))))) dNil)))))))))))))
  (dRet (dOp aIx (dVar 1) (dCall a_law_turn (dCons (dVar 0) (dCons (dCB aLen (dCons (dVar 1) dNil)) dNil))))))))
/-- 0 value: k02 k04 k05 -/
def g_crossing_in (a_have_form a_least_crossing : ASp) : AS :=
  (dSeq (dIfS (dNot (dB (dCall a_have_form (dCons (dVar 0) dNil)))) dNever dNext)
  (dRet (dCall a_least_crossing (dCons (dVar 0) dNil))))
/-- 0 value: k02 k04 k05 -/
def x_crossing_in (a_have_form a_least_crossing : ASp) : XS :=
  fun Xa =>
  (dSeq (dIfS (dNot (dB (dCall a_have_form (dCons (dVar 0) dNil)))) (xRaise "InvalidLog" Xa) dNext)
  (dRet (dCall a_least_crossing (dCons (dVar 0) dNil))))
/-- 0 value: k03 k04 k05 k06 k07 k08 k09 k10 k11 k12 k13 k14 k15 k16 k17 k18 k20 k21 k22 k23 k27 k28 k30 k31 k32 k33 k34 k35 k36 k37 k38 k39 k40 k41 k42 k43 k44 k46 k48 k49 k56 k57 k58 k59 k61 k66 k67 k68 k69 k70 k71 k72 k73 k74 k75 k76 k77 k78 k79 k80 k81 k82 -/
def g_need_log (a_is_log : ASp) : AS :=
  (dIfS (dNot (dB (dCall a_is_log (dCons (dVar 0) dNil)))) dNever dNext)
/-- 0 value: k03 k04 k05 k06 k07 k08 k09 k10 k11 k12 k13 k14 k15 k16 k17 k18 k20 k21 k22 k23 k27 k28 k30 k31 k32 k33 k34 k35 k36 k37 k38 k39 k40 k41 k42 k43 k44 k46 k48 k49 k56 k57 k58 k59 k61 k66 k67 k68 k69 k70 k71 k72 k73 k74 k75 k76 k77 k78 k79 k80 k81 k82 -/
def x_need_log (a_is_log : ASp) : XS :=
  fun Xa =>
  (dIfS (dNot (dB (dCall a_is_log (dCons (dVar 0) dNil)))) (xRaise "InvalidLog" Xa) dNext)
def b1_targets_of : AS :=
  (dAsg 1 (dOp (aAdd false) (dLc (sList (dVar 1)) (gN 4) (dB (dOp (aB fun i j => decide (i ≤ j)) (dVar 4) (dVar 3))) (dVar 4) [4]) (dLst (dCons (dOp (aAdd false) (dVar 2) (dC (.int 1))) dNil))))
/-- 0 links, 1 found, 2 entry, 3 link, 4 target: k04 k05 k23 k37 k41 k42 k43 k57 k59 k61 k69 k70 k71 k72 k75 k78 k81 -/
def g_targets_of : AS :=
  (dSeq (dAsg 1 (dLst (dCons (dC (.int 0)) dNil)))
  (dSeq (dFor (sEnum (dCons (dSl false (dVar 0) (dPart (dC (.int 1))) dNoPart) dNil)) (gT 2 (gN1 (gN 2) (gN1 (gN 3) gN0)))
  (b1_targets_of))
  (dRet (dVar 1))))
def b1_targets_of_2 : AS :=
  (dAsg 1 (dOp (aAdd true) (dLc (sList (dVar 1)) (gN 4) (dB (dOp (aB fun i j => decide (i ≤ j)) (dVar 4) (dVar 3))) (dVar 4) [4]) (dLst (dCons (dOp (aAdd false) (dVar 2) (dC (.int 1))) dNil))))
/-- 0 links, 1 found, 2 entry, 3 link, 4 target: k03 -/
def g_targets_of_2 : AS :=
  (dSeq (dAsg 1 (dLstM (dCons (dC (.int 0)) dNil)))
  (dSeq (dFor (sEnum (dCons (dSl false (dVar 0) (dPart (dC (.int 1))) dNoPart) dNil)) (gT 2 (gN1 (gN 2) (gN1 (gN 3) gN0)))
  (b1_targets_of_2))
  (dRet (dVar 1))))
/-- 0 links: k03 k04 k05 k23 k57 k59 k61 k69 k70 k71 k72 k81 -/
def g_allowed_targets (a_need_log a_targets_of : ASp) : AS :=
  (dSeq (dExpr (dCall a_need_log (dCons (dVar 0) dNil)))
  (dRet (dCall a_targets_of (dCons (dVar 0) dNil))))
/-- 0 links: k03 k04 k05 k23 k57 k59 k61 k69 k70 k71 k72 k81 -/
def x_allowed_targets (a_targets_of : ASp) (ax_need_log : AXp) : XS :=
  fun Xa =>
  (dSeq (dExpr (rCall ax_need_log (dCons (dVar 0) dNil) Xa))
  (dRet (dCall a_targets_of (dCons (dVar 0) dNil))))
/-- 0 e, 1 some, 2 others, 3 names, 4 name, 5 so: k04 k12 k17 -/
def g_law_kind : AS :=
  (dSeq (dAsg 1 (dLst (dCons (dTup (dCons (dC (.str "InvalidLog")) (dCons (dIsx ["InvalidLog", "InvalidEntry", "InvalidTarget", "InvalidChain", "InvalidNumber", "InvalidSize", "InvalidKnown", "InvalidPrices", "InvalidBase", "InvalidTag", "InvalidText", "InvalidCommand", "Different", "NothingToUndo"] "InvalidLog" (dVar 0)) dNil))) (dCons (dTup (dCons (dC (.str "InvalidEntry")) (dCons (dIsx ["InvalidLog", "InvalidEntry", "InvalidTarget", "InvalidChain", "InvalidNumber", "InvalidSize", "InvalidKnown", "InvalidPrices", "InvalidBase", "InvalidTag", "InvalidText", "InvalidCommand", "Different", "NothingToUndo"] "InvalidEntry" (dVar 0)) dNil))) dNil))))
  (dSeq (dAsg 1 (dOp (aAdd false) (dVar 1) (dLst (dCons (dTup (dCons (dC (.str "InvalidChain")) (dCons (dIsx ["InvalidLog", "InvalidEntry", "InvalidTarget", "InvalidChain", "InvalidNumber", "InvalidSize", "InvalidKnown", "InvalidPrices", "InvalidBase", "InvalidTag", "InvalidText", "InvalidCommand", "Different", "NothingToUndo"] "InvalidChain" (dVar 0)) dNil))) (dCons (dTup (dCons (dC (.str "InvalidNumber")) (dCons (dIsx ["InvalidLog", "InvalidEntry", "InvalidTarget", "InvalidChain", "InvalidNumber", "InvalidSize", "InvalidKnown", "InvalidPrices", "InvalidBase", "InvalidTag", "InvalidText", "InvalidCommand", "Different", "NothingToUndo"] "InvalidNumber" (dVar 0)) dNil))) dNil)))))
  (dSeq (dAsg 1 (dOp (aAdd false) (dVar 1) (dLst (dCons (dTup (dCons (dC (.str "InvalidSize")) (dCons (dIsx ["InvalidLog", "InvalidEntry", "InvalidTarget", "InvalidChain", "InvalidNumber", "InvalidSize", "InvalidKnown", "InvalidPrices", "InvalidBase", "InvalidTag", "InvalidText", "InvalidCommand", "Different", "NothingToUndo"] "InvalidSize" (dVar 0)) dNil))) (dCons (dTup (dCons (dC (.str "InvalidKnown")) (dCons (dIsx ["InvalidLog", "InvalidEntry", "InvalidTarget", "InvalidChain", "InvalidNumber", "InvalidSize", "InvalidKnown", "InvalidPrices", "InvalidBase", "InvalidTag", "InvalidText", "InvalidCommand", "Different", "NothingToUndo"] "InvalidKnown" (dVar 0)) dNil))) dNil)))))
  (dSeq (dAsg 1 (dOp (aAdd false) (dVar 1) (dLst (dCons (dTup (dCons (dC (.str "Crossing")) (dCons (dIsx ["InvalidLog", "InvalidEntry", "InvalidTarget", "InvalidChain", "InvalidNumber", "InvalidSize", "InvalidKnown", "InvalidPrices", "InvalidBase", "InvalidTag", "InvalidText", "InvalidCommand", "Different", "NothingToUndo"] "Crossing" (dVar 0)) dNil))) (dCons (dTup (dCons (dC (.str "Different")) (dCons (dIsx ["InvalidLog", "InvalidEntry", "InvalidTarget", "InvalidChain", "InvalidNumber", "InvalidSize", "InvalidKnown", "InvalidPrices", "InvalidBase", "InvalidTag", "InvalidText", "InvalidCommand", "Different", "NothingToUndo"] "Different" (dVar 0)) dNil))) dNil)))))
  (dSeq (dAsg 2 (dIsxT ["InvalidLog", "InvalidEntry", "InvalidTarget", "InvalidChain", "InvalidNumber", "InvalidSize", "InvalidKnown", "InvalidPrices", "InvalidBase", "InvalidTag", "InvalidText", "InvalidCommand", "Different", "NothingToUndo"] ["InvalidBase", "InvalidChange", "InvalidCommand", "InvalidPrices", "InvalidTag", "InvalidTarget"] (dVar 0)))
  (dSeq (dAsg 2 (dOrV (dVar 2) (dIsxT ["InvalidLog", "InvalidEntry", "InvalidTarget", "InvalidChain", "InvalidNumber", "InvalidSize", "InvalidKnown", "InvalidPrices", "InvalidBase", "InvalidTag", "InvalidText", "InvalidCommand", "Different", "NothingToUndo"] ["InvalidText", "NothingToUndo"] (dVar 0))))
  (dSeq (dAsg 3 (dLc (sList (dVar 1)) (gT 2 (gN1 (gN 4) (gN1 (gN 5) gN0))) (dB (dVar 5)) (dVar 4) [4, 5]))
  (dRet (dIf (dAnd (dB (dOp (aEq) (dCB aLen (dCons (dVar 3) dNil)) (dC (.int 1)))) (dAnd (dNot (dB (dVar 2))) (dB (dIsx ["InvalidLog", "InvalidEntry", "InvalidTarget", "InvalidChain", "InvalidNumber", "InvalidSize", "InvalidKnown", "InvalidPrices", "InvalidBase", "InvalidTag", "InvalidText", "InvalidCommand", "Different", "NothingToUndo"] "ValueError" (dVar 0))))) (dOp aIx (dVar 3) (dC (.int 0))) (dC (.str "odd")))))))))))
/-- 0 e, 1 some, 2 words, 3 word, 4 so: k42 k48 -/
def g_law_kind_2 : AS :=
  (dSeq (dAsg 1 (dLst (dCons (dTup (dCons (dC (.str "InvalidLog")) (dCons (dIsx ["InvalidLog", "InvalidEntry", "InvalidTarget", "InvalidChain", "InvalidNumber", "InvalidSize", "InvalidKnown", "InvalidPrices", "InvalidBase", "InvalidTag", "InvalidText", "InvalidCommand", "Different", "NothingToUndo"] "InvalidLog" (dVar 0)) dNil))) (dCons (dTup (dCons (dC (.str "Different")) (dCons (dIsx ["InvalidLog", "InvalidEntry", "InvalidTarget", "InvalidChain", "InvalidNumber", "InvalidSize", "InvalidKnown", "InvalidPrices", "InvalidBase", "InvalidTag", "InvalidText", "InvalidCommand", "Different", "NothingToUndo"] "Different" (dVar 0)) dNil))) dNil))))
  (dSeq (dAsg 1 (dOp (aAdd false) (dVar 1) (dLst (dCons (dTup (dCons (dC (.str "InvalidSize")) (dCons (dIsx ["InvalidLog", "InvalidEntry", "InvalidTarget", "InvalidChain", "InvalidNumber", "InvalidSize", "InvalidKnown", "InvalidPrices", "InvalidBase", "InvalidTag", "InvalidText", "InvalidCommand", "Different", "NothingToUndo"] "InvalidSize" (dVar 0)) dNil))) (dCons (dTup (dCons (dC (.str "InvalidPrices")) (dCons (dIsx ["InvalidLog", "InvalidEntry", "InvalidTarget", "InvalidChain", "InvalidNumber", "InvalidSize", "InvalidKnown", "InvalidPrices", "InvalidBase", "InvalidTag", "InvalidText", "InvalidCommand", "Different", "NothingToUndo"] "InvalidPrices" (dVar 0)) dNil))) dNil)))))
  (dSeq (dAsg 1 (dOp (aAdd false) (dVar 1) (dLst (dCons (dTup (dCons (dC (.str "InvalidChange")) (dCons (dIsx ["InvalidLog", "InvalidEntry", "InvalidTarget", "InvalidChain", "InvalidNumber", "InvalidSize", "InvalidKnown", "InvalidPrices", "InvalidBase", "InvalidTag", "InvalidText", "InvalidCommand", "Different", "NothingToUndo"] "InvalidChange" (dVar 0)) dNil))) dNil))))
  (dSeq (dAsg 1 (dOp (aAdd false) (dVar 1) (dLst (dCons (dTup (dCons (dC (.str "odd")) (dCons (dIsxT ["InvalidLog", "InvalidEntry", "InvalidTarget", "InvalidChain", "InvalidNumber", "InvalidSize", "InvalidKnown", "InvalidPrices", "InvalidBase", "InvalidTag", "InvalidText", "InvalidCommand", "Different", "NothingToUndo"] ["Crossing", "InvalidBase", "InvalidChain", "InvalidCommand"] (dVar 0)) dNil))) dNil))))
  (dSeq (dAsg 1 (dOp (aAdd false) (dVar 1) (dLst (dCons (dTup (dCons (dC (.str "odd")) (dCons (dIsxT ["InvalidLog", "InvalidEntry", "InvalidTarget", "InvalidChain", "InvalidNumber", "InvalidSize", "InvalidKnown", "InvalidPrices", "InvalidBase", "InvalidTag", "InvalidText", "InvalidCommand", "Different", "NothingToUndo"] ["InvalidEntry", "InvalidKnown", "InvalidNumber", "InvalidTag"] (dVar 0)) dNil))) dNil))))
  (dSeq (dAsg 1 (dOp (aAdd false) (dVar 1) (dLst (dCons (dTup (dCons (dC (.str "odd")) (dCons (dIsxT ["InvalidLog", "InvalidEntry", "InvalidTarget", "InvalidChain", "InvalidNumber", "InvalidSize", "InvalidKnown", "InvalidPrices", "InvalidBase", "InvalidTag", "InvalidText", "InvalidCommand", "Different", "NothingToUndo"] ["InvalidTarget", "InvalidText", "NothingToUndo"] (dVar 0)) dNil))) dNil))))
  (dSeq (dAsg 2 (dLc (sList (dVar 1)) (gT 2 (gN1 (gN 3) (gN1 (gN 4) gN0))) (dB (dVar 4)) (dVar 3) [3, 4]))
  (dRet (dIf (dAnd (dB (dOp (aEq) (dCB aLen (dCons (dVar 2) dNil)) (dC (.int 1)))) (dB (dIsx ["InvalidLog", "InvalidEntry", "InvalidTarget", "InvalidChain", "InvalidNumber", "InvalidSize", "InvalidKnown", "InvalidPrices", "InvalidBase", "InvalidTag", "InvalidText", "InvalidCommand", "Different", "NothingToUndo"] "ValueError" (dVar 0)))) (dOp aIx (dVar 2) (dC (.int 0))) (dC (.str "odd")))))))))))
/-- 0 links, 1 value, 2 entry, 3 later: k06 k09 k11 k12 k13 k14 k17 k18 k66 k68 k72 k73 k79 k80 -/
def g_is_chain_of (a_is_integer : ASp) : AS :=
  (dSeq (dIfS (dOr (dNot (dB (dIsi "list" (dVar 1)))) (dB (dOp (aEq) (dVar 1) (dLst dNil)))) (dRet (dC (.bool false))) dNext)
  (dSeq (dIfS (dNot (dB (dCB aAll (dCons (dLc (sList (dVar 1)) (gN 2) dYes (dCall a_is_integer (dCons (dVar 2) (dCons (dC (.int 0)) (dCons (dOp aSub (dCB aLen (dCons (dVar 0) dNil)) (dC (.int 1))) dNil)))) [2]) dNil)))) (dRet (dC (.bool false))) dNext)
  (dRet (dCB aAll (dCons (dLc (sZip (dCons (dVar 1) (dCons (dSl false (dVar 1) (dPart (dC (.int 1))) dNoPart) dNil))) (gT 2 (gN1 (gN 2) (gN1 (gN 3) gN0))) dYes (dAndV (dOp (aIn false) (dVar 3) (dTup (dCons (dOp aSub (dVar 2) (dC (.int 1))) (dCons (dOp aIx (dVar 0) (dVar 2)) dNil)))) (dOp (aB fun i j => decide (i < j)) (dVar 3) (dVar 2))) [2, 3]) dNil)))))
/-- 0 links, 1 value: k06 k11 k12 k13 k72 k73 k79 -/
def g_is_chain (a_need_log a_is_chain_of : ASp) : AS :=
  (dSeq (dExpr (dCall a_need_log (dCons (dVar 0) dNil)))
  (dRet (dCall a_is_chain_of (dCons (dVar 0) (dCons (dVar 1) dNil)))))
/-- 0 links, 1 value: k06 k11 k12 k13 k72 k73 k79 -/
def x_is_chain (a_is_chain_of : ASp) (ax_need_log : AXp) : XS :=
  fun Xa =>
  (dSeq (dExpr (rCall ax_need_log (dCons (dVar 0) dNil) Xa))
  (dRet (dCall a_is_chain_of (dCons (dVar 0) (dCons (dVar 1) dNil)))))
/-- 0 vat, 1 size, 2 start: k06 k07 k08 k09 k10 k11 k12 k13 k14 k15 k16 k17 k18 k29 k30 k31 -/
def g_law_range (a_law_drip : ASp) : AS :=
  (dSeq (dAsg 2 (dOp aIx (dLst (dCons (dOp aSub (dVar 1) (dC (.int 1))) (dCons (dCall a_law_drip (dCons (dVar 0) (dCons (dVar 1) dNil))) dNil))) (dCall a_law_drip (dCons (dVar 0) (dCons (dC (.int 2)) dNil)))))
  (dRet (dTup (dCons (dVar 2) (dCons (dOp aIx (dLst (dCons (dC (.int 0)) (dCons (dCall a_law_drip (dCons (dVar 0) (dCons (dOp (aAdd false) (dVar 2) (dC (.int 1))) dNil))) (dCons (dCB aMax (dCons (dC (.int 0)) (dCons (dOp aSub (dVar 2) (dC (.int 1))) dNil))) dNil)))) (dCall a_law_drip (dCons (dVar 0) (dCons (dC (.int 3)) dNil)))) dNil)))))
/-- 0 reel, 1 base, 2 one, 3 other, 4 style: k51 k52 k53 k54 k55 k56 -/
def g_law_range_2 (a_law_place a_law_turn : ASp) : AS :=
  (dSeq (dPar2 2 3 (dCons (dCall a_law_place (dCons (dVar 0) (dCons (dVar 1) dNil))) (dCons (dCall a_law_place (dCons (dVar 0) (dCons (dVar 1) dNil))) dNil)))
  (dSeq (dAsg 4 (dCall a_law_turn (dCons (dVar 0) (dCons (dC (.int 5)) dNil))))
  (dSeq (dAsg 3 (dOp aIx (dLst (dCons (dVar 3) (dCons (dVar 3) (dCons (dC (.int 0)) (dCons (dCB aMax (dCons (dC (.int 0)) (dCons (dOp aSub (dVar 2) (dCall a_law_turn (dCons (dVar 0) (dCons (dC (.int 100)) dNil)))) dNil))) (dCons (dOp aMod (dVar 3) (dOp (aAdd false) (dVar 2) (dC (.int 1)))) dNil)))))) (dVar 4)))
  (dRet (dTup (dCons (dCB aMax (dCons (dVar 2) (dCons (dVar 3) dNil))) (dCons (dCB aMin (dCons (dVar 2) (dCons (dVar 3) dNil))) dNil)))))))
def t1_law_down (a_law_drip : ASp) : AT :=
  (dB (dOp (aB fun i j => decide (j < i)) (dOp aIx (dVar 4) (dUn aNeg (dC (.int 1)))) (dVar 3)))
def b1_law_down (a_law_drip : ASp) : AS :=
  (dSeq (dAsg 6 (dOp aIx (dVar 1) (dOp aIx (dVar 4) (dUn aNeg (dC (.int 1))))))
  (dSeq (dAsg 7 (dOp aIx (dLst (dCons (dCall a_law_drip (dCons (dVar 0) (dCons (dC (.int 2)) dNil))) (dCons (dOp aDiv (dCall a_law_drip (dCons (dVar 0) (dCons (dC (.int 6)) dNil))) (dC (.int 5))) (dCons (dCB aInt (dCons (dOp (aB fun i j => decide (j < i)) (dCall a_law_drip (dCons (dVar 0) (dCons (dC (.int 6)) dNil))) (dC (.int 0))) dNil)) dNil)))) (dVar 5)))
  (dExpr (dMeth aAppend (dVar 4) (dCons (dIf (dAnd (dB (dOp (aEq) (dVar 7) (dC (.int 1)))) (dB (dOp (aB fun i j => decide (j ≤ i)) (dVar 6) (dVar 3)))) (dVar 6) (dOp aSub (dOp aIx (dVar 4) (dUn aNeg (dC (.int 1)))) (dC (.int 1)))) dNil)))))
/-- 0 vat, 1 links, 2 start, 3 end, 4 found, 5 way, 6 link, 7 by_link: k06 k07 k08 k09 k10 k11 k12 k13 k14 k15 k16 k17 k18 k29 k30 k31 -/
def g_law_down (a_law_drip : ASp) : AS :=
  (dSeq (dPar2 4 5 (dCons (dLstM (dCons (dVar 2) dNil)) (dCons (dCall a_law_drip (dCons (dVar 0) (dCons (dC (.int 3)) dNil))) dNil)))
  (dSeq (dWhile (t1_law_down a_law_drip) (b1_law_down a_law_drip))
  (dRet (dFrz (dVar 4)))))
/-- 0 links, 1 entry: k07 k08 k09 k10 k11 k12 k13 k15 k16 k17 k18 k31 k56 k58 k59 k61 k69 k70 k71 k72 k73 k77 k78 k79 k80 -/
def g_need_entry (a_is_integer : ASp) : AS :=
  (dIfS (dNot (dB (dCall a_is_integer (dCons (dVar 1) (dCons (dC (.int 0)) (dCons (dOp aSub (dCB aLen (dCons (dVar 0) dNil)) (dC (.int 1))) dNil)))))) dNever dNext)
/-- 0 links, 1 entry: k07 k08 k09 k10 k11 k12 k13 k15 k16 k17 k18 k31 k56 k58 k59 k61 k69 k70 k71 k72 k73 k77 k78 k79 k80 -/
def x_need_entry (a_is_integer : ASp) : XS :=
  fun Xa =>
  (dIfS (dNot (dB (dCall a_is_integer (dCons (dVar 1) (dCons (dC (.int 0)) (dCons (dOp aSub (dCB aLen (dCons (dVar 0) dNil)) (dC (.int 1))) dNil)))))) (xRaise "InvalidEntry" Xa) dNext)
/-- 0 links, 1 start, 2 end: k07 k08 k09 k10 k11 k12 k13 k15 k16 k17 k18 k31 k56 k58 k59 k61 k69 k70 k71 k72 k73 k77 k78 k79 k80 -/
def g_need_range (a_need_entry a_is_integer : ASp) : AS :=
  (dSeq (dExpr (dCall a_need_entry (dCons (dVar 0) (dCons (dVar 1) dNil))))
  (dIfS (dNot (dB (dCall a_is_integer (dCons (dVar 2) (dCons (dC (.int 0)) (dCons (dVar 1) dNil)))))) dNever dNext))
/-- 0 links, 1 start, 2 end: k07 k08 k09 k10 k11 k12 k13 k15 k16 k17 k18 k31 k56 k58 k59 k61 k69 k70 k71 k72 k73 k77 k78 k79 k80 -/
def x_need_range (a_is_integer : ASp) (ax_need_entry : AXp) : XS :=
  fun Xa =>
  (dSeq (dExpr (rCall ax_need_entry (dCons (dVar 0) (dCons (dVar 1) dNil)) Xa))
  (dIfS (dNot (dB (dCall a_is_integer (dCons (dVar 2) (dCons (dC (.int 0)) (dCons (dVar 1) dNil)))))) (xRaise "InvalidEntry" Xa) dNext))
def t1_greedy_chain : AT :=
  (dB (dOp (aB fun i j => decide (j < i)) (dOp aIx (dVar 3) (dUn aNeg (dC (.int 1)))) (dVar 2)))
def b1_greedy_chain : AS :=
  (dSeq (dAsg 4 (dOp aIx (dVar 0) (dOp aIx (dVar 3) (dUn aNeg (dC (.int 1))))))
  (dExpr (dMeth aAppend (dVar 3) (dCons (dIf (dB (dOp (aB fun i j => decide (j ≤ i)) (dVar 4) (dVar 2))) (dVar 4) (dOp aSub (dOp aIx (dVar 3) (dUn aNeg (dC (.int 1)))) (dC (.int 1)))) dNil))))
/-- 0 links, 1 start, 2 end, 3 found, 4 link: k12 k13 k15 k16 k17 k18 k31 k44 k46 k48 k49 k56 k58 k59 k61 k69 k70 k71 k72 k73 k76 k77 k78 k79 k80 -/
def g_greedy_chain : AS :=
  (dSeq (dAsg 3 (dLstM (dCons (dVar 1) dNil)))
  (dSeq (dWhile (t1_greedy_chain) (b1_greedy_chain))
  (dRet (dFrz (dVar 3)))))
def t1_greedy_chain_2 : AT :=
  (dB (dOp (aB fun i j => decide (j < i)) (dOp aIx (dVar 3) (dUn aNeg (dC (.int 1)))) (dVar 2)))
def b1_greedy_chain_2 : AS :=
  (dSeq (dAsg 4 (dOp aIx (dVar 0) (dOp aIx (dVar 3) (dUn aNeg (dC (.int 1))))))
  (dExpr (dMeth aAppend (dVar 3) (dCons (dIf (dB (dOp (aB fun i j => decide (j ≤ i)) (dVar 4) (dVar 2))) (dVar 4) (dOp aSub (dOp aIx (dVar 3) (dUn aNeg (dC (.int 1)))) (dC (.int 1)))) dNil))))
/-- 0 links, 1 start, 2 end, 3 found, 4 link: k07 k08 -/
def g_greedy_chain_2 : AS :=
  (dSeq (dAsg 3 (dLstM (dCons (dVar 1) dNil)))
  (dSeq (dWhile (t1_greedy_chain_2) (b1_greedy_chain_2))
  (dRet (dVar 3))))
/-- 0 links, 1 start, 2 end: k07 k12 k13 k18 k31 k56 k58 k59 k61 k69 k70 k71 k72 k73 k77 k78 k79 k80 -/
def g_shortest_chain (a_need_log a_need_range a_greedy_chain : ASp) : AS :=
  (dSeq (dExpr (dCall a_need_log (dCons (dVar 0) dNil)))
  (dSeq (dExpr (dCall a_need_range (dCons (dVar 0) (dCons (dVar 1) (dCons (dVar 2) dNil)))))
  (dRet (dCall a_greedy_chain (dCons (dVar 0) (dCons (dVar 1) (dCons (dVar 2) dNil)))))))
/-- 0 links, 1 start, 2 end: k07 k12 k13 k18 k31 k56 k58 k59 k61 k69 k70 k71 k72 k73 k77 k78 k79 k80 -/
def x_shortest_chain (a_greedy_chain : ASp) (ax_need_log ax_need_range : AXp) : XS :=
  fun Xa =>
  (dSeq (dExpr (rCall ax_need_log (dCons (dVar 0) dNil) Xa))
  (dSeq (dExpr (rCall ax_need_range (dCons (dVar 0) (dCons (dVar 1) (dCons (dVar 2) dNil))) Xa))
  (dRet (dCall a_greedy_chain (dCons (dVar 0) (dCons (dVar 1) (dCons (dVar 2) dNil)))))))
/-- 0 links, 1 entry, 2 end, 3 later: k07 k08 k09 k10 k11 k15 k16 k29 -/
def g_law_next : AS :=
  (dRet (dLc (sList (dSortSet false (dLst (dCons (dOp aIx (dVar 0) (dVar 1)) (dCons (dOp aSub (dVar 1) (dC (.int 1))) dNil))))) (gN 3) (dB (dChain (aB fun i j => decide (i ≤ j)) (aB fun i j => decide (i < j)) (dVar 2) (dVar 3) (dVar 1))) (dVar 3) [3]))
def b1_law_lengths (a_law_next : ASp) : AS :=
  (dPut (dCB aMin (dCons (dGet2 (dVar 4) (dVar 6) (dOp aPow (dC (.int 10)) (dC (.int 6)))) (dCons (dOp (aAdd false) (dGet (dVar 4) (dVar 5)) (dC (.int 1))) dNil))) (dVar 4) (dVar 6))
def b2_law_lengths (a_law_next : ASp) : AS :=
  (dIfS (dAnd (dB (dIn false (dVar 5) (dVar 4))) (dB (dOp (aNe) (dVar 5) (dVar 3)))) (dFor (sList (dCall a_law_next (dCons (dVar 0) (dCons (dVar 5) (dCons (dVar 2) dNil))))) (gN 6)
  (b1_law_lengths a_law_next)) dNext)
/-- 0 links, 1 start, 2 end, 3 without, 4 found, 5 entry, 6 later: k07 k08 k09 k10 k11 k15 k16 k29 -/
def g_law_lengths (a_law_next : ASp) : AS :=
  (dSeq (dAsg 4 (dDctM1 (dVar 1) (dC (.int 0))))
  (dSeq (dFor (sRngD (dCons (dVar 1) (dCons (dVar 2) (dCons (dUn aNeg (dC (.int 1))) dNil)))) (gN 5)
  (b2_law_lengths a_law_next))
  (dRet (dFrz (dVar 4)))))
/-- 0 links, 1 start, 2 end, 3 entry: k12 k13 k31 k73 k80 -/
def g_lies_on_every (a_need_log a_need_range a_need_entry a_greedy_chain : ASp) : AS :=
  (dSeq (dExpr (dCall a_need_log (dCons (dVar 0) dNil)))
  (dSeq (dExpr (dCall a_need_range (dCons (dVar 0) (dCons (dVar 1) (dCons (dVar 2) dNil)))))
  (dSeq (dExpr (dCall a_need_entry (dCons (dVar 0) (dCons (dVar 3) dNil))))
  (dRet (dOp (aIn false) (dVar 3) (dCall a_greedy_chain (dCons (dVar 0) (dCons (dVar 1) (dCons (dVar 2) dNil)))))))))
/-- 0 links, 1 start, 2 end, 3 entry: k08 -/
def g_lies_on_every_2 (a_need_log a_need_range a_need_entry a_greedy_chain : ASp) : AS :=
  (dSeq (dExpr (dCall a_need_log (dCons (dVar 0) dNil)))
  (dSeq (dExpr (dCall a_need_range (dCons (dVar 0) (dCons (dVar 1) (dCons (dVar 2) dNil)))))
  (dSeq (dExpr (dCall a_need_entry (dCons (dVar 0) (dCons (dVar 3) dNil))))
  (dRet (dOp (aIn false) (dVar 3) (dFrz (dCall a_greedy_chain (dCons (dVar 0) (dCons (dVar 1) (dCons (dVar 2) dNil))))))))))
/-- 0 links, 1 start, 2 end, 3 entry: k12 k13 k31 k73 k80 -/
def x_lies_on_every (a_greedy_chain : ASp) (ax_need_log ax_need_range ax_need_entry : AXp) : XS :=
  fun Xa =>
  (dSeq (dExpr (rCall ax_need_log (dCons (dVar 0) dNil) Xa))
  (dSeq (dExpr (rCall ax_need_range (dCons (dVar 0) (dCons (dVar 1) (dCons (dVar 2) dNil))) Xa))
  (dSeq (dExpr (rCall ax_need_entry (dCons (dVar 0) (dCons (dVar 3) dNil)) Xa))
  (dRet (dOp (aIn false) (dVar 3) (dCall a_greedy_chain (dCons (dVar 0) (dCons (dVar 1) (dCons (dVar 2) dNil)))))))))
/-- 0 links, 1 start, 2 end, 3 entry: k08 -/
def x_lies_on_every_2 (a_greedy_chain : ASp) (ax_need_log ax_need_range ax_need_entry : AXp) : XS :=
  fun Xa =>
  (dSeq (dExpr (rCall ax_need_log (dCons (dVar 0) dNil) Xa))
  (dSeq (dExpr (rCall ax_need_range (dCons (dVar 0) (dCons (dVar 1) (dCons (dVar 2) dNil))) Xa))
  (dSeq (dExpr (rCall ax_need_entry (dCons (dVar 0) (dCons (dVar 3) dNil)) Xa))
  (dRet (dOp (aIn false) (dVar 3) (dFrz (dCall a_greedy_chain (dCons (dVar 0) (dCons (dVar 1) (dCons (dVar 2) dNil))))))))))
/-- 0 links, 1 start, 2 end, 3 entry, 4 chain: k08 k12 k13 k73 k80 -/
def g_avoiding_chain (a_need_log a_need_range a_need_entry a_greedy_chain : ASp) : AS :=
  (dSeq (dExpr (dCall a_need_log (dCons (dVar 0) dNil)))
  (dSeq (dExpr (dCall a_need_range (dCons (dVar 0) (dCons (dVar 1) (dCons (dVar 2) dNil)))))
  (dSeq (dExpr (dCall a_need_entry (dCons (dVar 0) (dCons (dVar 3) dNil))))
  (dSeq (dAsg 4 (dCall a_greedy_chain (dCons (dVar 0) (dCons (dVar 1) (dCons (dVar 2) dNil)))))
  (dRet (dIf (dB (dOp (aIn false) (dVar 3) (dVar 4))) (dC .none) (dVar 4)))))))
/-- 0 links, 1 start, 2 end, 3 entry, 4 chain: k08 k12 k13 k73 k80 -/
def x_avoiding_chain (a_greedy_chain : ASp) (ax_need_log ax_need_range ax_need_entry : AXp) : XS :=
  fun Xa =>
  (dSeq (dExpr (rCall ax_need_log (dCons (dVar 0) dNil) Xa))
  (dSeq (dExpr (rCall ax_need_range (dCons (dVar 0) (dCons (dVar 1) (dCons (dVar 2) dNil))) Xa))
  (dSeq (dExpr (rCall ax_need_entry (dCons (dVar 0) (dCons (dVar 3) dNil)) Xa))
  (dSeq (dAsg 4 (dCall a_greedy_chain (dCons (dVar 0) (dCons (dVar 1) (dCons (dVar 2) dNil)))))
  (dRet (dIf (dB (dOp (aIn false) (dVar 3) (dVar 4))) (dC .none) (dVar 4)))))))
/-- 0 links, 1 value: k09 k11 k12 k14 k17 k18 k66 k68 k72 k73 k79 k80 -/
def g_need_chain (a_is_chain_of : ASp) : AS :=
  (dIfS (dNot (dB (dCall a_is_chain_of (dCons (dVar 0) (dCons (dVar 1) dNil))))) dNever dNext)
/-- 0 links, 1 value: k09 k11 k12 k14 k17 k18 k66 k68 k72 k73 k79 k80 -/
def x_need_chain (a_is_chain_of : ASp) : XS :=
  fun Xa =>
  (dIfS (dNot (dB (dCall a_is_chain_of (dCons (dVar 0) (dCons (dVar 1) dNil))))) (xRaise "InvalidChain" Xa) dNext)
/-- 0 links, 1 entry, 2 end, 3 later: k09 k10 k11 k12 k13 k69 k70 k71 k72 k73 k78 k79 k80 -/
def g_next_entries : AS :=
  (dRet (dSortSc false (sTup (dTup (dCons (dOp aIx (dVar 0) (dVar 1)) (dCons (dOp aSub (dVar 1) (dC (.int 1))) dNil)))) (gN 3) (dB (dOp (aB fun i j => decide (j ≤ i)) (dVar 3) (dVar 2))) (dVar 3) [3]))
def b1_numbers_to (a_next_entries : ASp) : AS :=
  (dPut (dCB aSum (dCons (dLc (sList (dCall a_next_entries (dCons (dVar 0) (dCons (dVar 4) (dCons (dVar 2) dNil))))) (gN 5) dYes (dGet (dVar 3) (dVar 5)) [5]) dNil)) (dVar 3) (dVar 4))
/-- 0 links, 1 start, 2 end, 3 found, 4 entry, 5 later: k09 k11 k12 k13 k69 k70 k71 k72 k73 k78 k79 k80 -/
def g_numbers_to (a_next_entries : ASp) : AS :=
  (dSeq (dAsg 3 (dDctM1 (dVar 2) (dC (.int 1))))
  (dSeq (dFor (sRng2 (dCons (dOp (aAdd false) (dVar 2) (dC (.int 1))) (dCons (dOp (aAdd false) (dVar 1) (dC (.int 1))) dNil))) (gN 4)
  (b1_numbers_to a_next_entries))
  (dRet (dFrz (dVar 3)))))
/-- 0 links, 1 start, 2 end: k09 k11 k12 k13 k69 k70 k71 k72 k73 k78 k79 k80 -/
def g_count_chains (a_need_log a_need_range a_numbers_to : ASp) : AS :=
  (dSeq (dExpr (dCall a_need_log (dCons (dVar 0) dNil)))
  (dSeq (dExpr (dCall a_need_range (dCons (dVar 0) (dCons (dVar 1) (dCons (dVar 2) dNil)))))
  (dRet (dGet (dCall a_numbers_to (dCons (dVar 0) (dCons (dVar 1) (dCons (dVar 2) dNil)))) (dVar 1)))))
/-- 0 links, 1 start, 2 end: k09 k11 k12 k13 k69 k70 k71 k72 k73 k78 k79 k80 -/
def x_count_chains (a_numbers_to : ASp) (ax_need_log ax_need_range : AXp) : XS :=
  fun Xa =>
  (dSeq (dExpr (rCall ax_need_log (dCons (dVar 0) dNil) Xa))
  (dSeq (dExpr (rCall ax_need_range (dCons (dVar 0) (dCons (dVar 1) (dCons (dVar 2) dNil))) Xa))
  (dRet (dGet (dCall a_numbers_to (dCons (dVar 0) (dCons (dVar 1) (dCons (dVar 2) dNil)))) (dVar 1)))))
def t1_nth_chain (a_need_log a_need_range a_numbers_to a_is_integer a_next_entries : ASp) : AT :=
  (dB (dOp (aB fun i j => decide (j < i)) (dOp aIx (dVar 5) (dUn aNeg (dC (.int 1)))) (dVar 2)))
def b1_nth_chain (a_need_log a_need_range a_numbers_to a_is_integer a_next_entries : ASp) : AS :=
  (dSeq (dAsg 6 (dOp aIx (dCall a_next_entries (dCons (dVar 0) (dCons (dOp aIx (dVar 5) (dUn aNeg (dC (.int 1)))) (dCons (dVar 2) dNil)))) (dC (.int 0))))
  (dIfS (dB (dOp (aB fun i j => decide (i < j)) (dVar 3) (dGet (dVar 4) (dVar 6)))) (dExpr (dMeth aAppend (dVar 5) (dCons (dVar 6) dNil))) (dSeq (dAug 3 (aI fun i j => i - j) (dGet (dVar 4) (dVar 6)))
  (dExpr (dMeth aAppend (dVar 5) (dCons (dOp aSub (dOp aIx (dVar 5) (dUn aNeg (dC (.int 1)))) (dC (.int 1))) dNil))))))
/-- 0 links, 1 start, 2 end, 3 number, 4 numbers, 5 found, 6 least: k11 k12 k73 k78 k79 k80 -/
def g_nth_chain (a_need_log a_need_range a_numbers_to a_is_integer a_next_entries : ASp) : AS :=
  (dSeq (dExpr (dCall a_need_log (dCons (dVar 0) dNil)))
  (dSeq (dExpr (dCall a_need_range (dCons (dVar 0) (dCons (dVar 1) (dCons (dVar 2) dNil)))))
  (dSeq (dAsg 4 (dCall a_numbers_to (dCons (dVar 0) (dCons (dVar 1) (dCons (dVar 2) dNil)))))
  (dSeq (dIfS (dNot (dB (dCall a_is_integer (dCons (dVar 3) (dCons (dC (.int 0)) (dCons (dOp aSub (dGet (dVar 4) (dVar 1)) (dC (.int 1))) dNil)))))) dNever dNext)
  (dSeq (dAsg 5 (dLstM (dCons (dVar 1) dNil)))
  (dSeq (dWhile (t1_nth_chain a_need_log a_need_range a_numbers_to a_is_integer a_next_entries) (b1_nth_chain a_need_log a_need_range a_numbers_to a_is_integer a_next_entries))
  (dRet (dFrz (dVar 5)))))))))
def t1_nth_chain_2 (a_need_log a_need_range a_numbers_to a_is_integer a_next_entries : ASp) : AT :=
  (dB (dOp (aB fun i j => decide (j < i)) (dOp aIx (dVar 5) (dUn aNeg (dC (.int 1)))) (dVar 2)))
def b1_nth_chain_2 (a_need_log a_need_range a_numbers_to a_is_integer a_next_entries : ASp) : AS :=
  (dSeq (dAsg 6 (dOp aIx (dCall a_next_entries (dCons (dVar 0) (dCons (dOp aIx (dVar 5) (dUn aNeg (dC (.int 1)))) (dCons (dVar 2) dNil)))) (dC (.int 0))))
  (dIfS (dB (dOp (aB fun i j => decide (i < j)) (dVar 3) (dGet (dVar 4) (dVar 6)))) (dExpr (dMeth aAppend (dVar 5) (dCons (dVar 6) dNil))) (dSeq (dAug 3 (aI fun i j => i - j) (dGet (dVar 4) (dVar 6)))
  (dExpr (dMeth aAppend (dVar 5) (dCons (dOp aSub (dOp aIx (dVar 5) (dUn aNeg (dC (.int 1)))) (dC (.int 1))) dNil))))))
/-- 0 links, 1 start, 2 end, 3 number, 4 numbers, 5 found, 6 least: k09 -/
def g_nth_chain_2 (a_need_log a_need_range a_numbers_to a_is_integer a_next_entries : ASp) : AS :=
  (dSeq (dExpr (dCall a_need_log (dCons (dVar 0) dNil)))
  (dSeq (dExpr (dCall a_need_range (dCons (dVar 0) (dCons (dVar 1) (dCons (dVar 2) dNil)))))
  (dSeq (dAsg 4 (dCall a_numbers_to (dCons (dVar 0) (dCons (dVar 1) (dCons (dVar 2) dNil)))))
  (dSeq (dIfS (dNot (dB (dCall a_is_integer (dCons (dVar 3) (dCons (dC (.int 0)) (dCons (dOp aSub (dGet (dVar 4) (dVar 1)) (dC (.int 1))) dNil)))))) dNever dNext)
  (dSeq (dAsg 5 (dLstM (dCons (dVar 1) dNil)))
  (dSeq (dWhile (t1_nth_chain_2 a_need_log a_need_range a_numbers_to a_is_integer a_next_entries) (b1_nth_chain_2 a_need_log a_need_range a_numbers_to a_is_integer a_next_entries))
  (dRet (dVar 5))))))))
def t1_x_nth_chain (a_numbers_to a_is_integer a_next_entries : ASp) (ax_need_log ax_need_range : AXp) : AT :=
  (dB (dOp (aB fun i j => decide (j < i)) (dOp aIx (dVar 5) (dUn aNeg (dC (.int 1)))) (dVar 2)))
def b1_x_nth_chain (a_numbers_to a_is_integer a_next_entries : ASp) (ax_need_log ax_need_range : AXp) : AS :=
  (dSeq (dAsg 6 (dOp aIx (dCall a_next_entries (dCons (dVar 0) (dCons (dOp aIx (dVar 5) (dUn aNeg (dC (.int 1)))) (dCons (dVar 2) dNil)))) (dC (.int 0))))
  (dIfS (dB (dOp (aB fun i j => decide (i < j)) (dVar 3) (dGet (dVar 4) (dVar 6)))) (dExpr (dMeth aAppend (dVar 5) (dCons (dVar 6) dNil))) (dSeq (dAug 3 (aI fun i j => i - j) (dGet (dVar 4) (dVar 6)))
  (dExpr (dMeth aAppend (dVar 5) (dCons (dOp aSub (dOp aIx (dVar 5) (dUn aNeg (dC (.int 1)))) (dC (.int 1))) dNil))))))
/-- 0 links, 1 start, 2 end, 3 number, 4 numbers, 5 found, 6 least: k11 k12 k73 k78 k79 k80 -/
def x_nth_chain (a_numbers_to a_is_integer a_next_entries : ASp) (ax_need_log ax_need_range : AXp) : XS :=
  fun Xa =>
  (dSeq (dExpr (rCall ax_need_log (dCons (dVar 0) dNil) Xa))
  (dSeq (dExpr (rCall ax_need_range (dCons (dVar 0) (dCons (dVar 1) (dCons (dVar 2) dNil))) Xa))
  (dSeq (dAsg 4 (dCall a_numbers_to (dCons (dVar 0) (dCons (dVar 1) (dCons (dVar 2) dNil)))))
  (dSeq (dIfS (dNot (dB (dCall a_is_integer (dCons (dVar 3) (dCons (dC (.int 0)) (dCons (dOp aSub (dGet (dVar 4) (dVar 1)) (dC (.int 1))) dNil)))))) (xRaise "InvalidNumber" Xa) dNext)
  (dSeq (dAsg 5 (dLstM (dCons (dVar 1) dNil)))
  (dSeq (dWhile (t1_x_nth_chain a_numbers_to a_is_integer a_next_entries ax_need_log ax_need_range) (b1_x_nth_chain a_numbers_to a_is_integer a_next_entries ax_need_log ax_need_range))
  (dRet (dFrz (dVar 5)))))))))
def t1_x_nth_chain_2 (a_numbers_to a_is_integer a_next_entries : ASp) (ax_need_log ax_need_range : AXp) : AT :=
  (dB (dOp (aB fun i j => decide (j < i)) (dOp aIx (dVar 5) (dUn aNeg (dC (.int 1)))) (dVar 2)))
def b1_x_nth_chain_2 (a_numbers_to a_is_integer a_next_entries : ASp) (ax_need_log ax_need_range : AXp) : AS :=
  (dSeq (dAsg 6 (dOp aIx (dCall a_next_entries (dCons (dVar 0) (dCons (dOp aIx (dVar 5) (dUn aNeg (dC (.int 1)))) (dCons (dVar 2) dNil)))) (dC (.int 0))))
  (dIfS (dB (dOp (aB fun i j => decide (i < j)) (dVar 3) (dGet (dVar 4) (dVar 6)))) (dExpr (dMeth aAppend (dVar 5) (dCons (dVar 6) dNil))) (dSeq (dAug 3 (aI fun i j => i - j) (dGet (dVar 4) (dVar 6)))
  (dExpr (dMeth aAppend (dVar 5) (dCons (dOp aSub (dOp aIx (dVar 5) (dUn aNeg (dC (.int 1)))) (dC (.int 1))) dNil))))))
/-- 0 links, 1 start, 2 end, 3 number, 4 numbers, 5 found, 6 least: k09 -/
def x_nth_chain_2 (a_numbers_to a_is_integer a_next_entries : ASp) (ax_need_log ax_need_range : AXp) : XS :=
  fun Xa =>
  (dSeq (dExpr (rCall ax_need_log (dCons (dVar 0) dNil) Xa))
  (dSeq (dExpr (rCall ax_need_range (dCons (dVar 0) (dCons (dVar 1) (dCons (dVar 2) dNil))) Xa))
  (dSeq (dAsg 4 (dCall a_numbers_to (dCons (dVar 0) (dCons (dVar 1) (dCons (dVar 2) dNil)))))
  (dSeq (dIfS (dNot (dB (dCall a_is_integer (dCons (dVar 3) (dCons (dC (.int 0)) (dCons (dOp aSub (dGet (dVar 4) (dVar 1)) (dC (.int 1))) dNil)))))) (xRaise "InvalidNumber" Xa) dNext)
  (dSeq (dAsg 5 (dLstM (dCons (dVar 1) dNil)))
  (dSeq (dWhile (t1_x_nth_chain_2 a_numbers_to a_is_integer a_next_entries ax_need_log ax_need_range) (b1_x_nth_chain_2 a_numbers_to a_is_integer a_next_entries ax_need_log ax_need_range))
  (dRet (dVar 5))))))))
def b1_chain_number (a_need_log a_need_chain a_numbers_to a_next_entries : ASp) : AS :=
  (dSeq (dAsg 6 (dOp aIx (dCall a_next_entries (dCons (dVar 0) (dCons (dVar 4) (dCons (dOp aIx (dVar 1) (dUn aNeg (dC (.int 1)))) dNil)))) (dC (.int 0))))
  (dAug 3 (aI fun i j => i + j) (dIf (dB (dOp (aB fun i j => decide (j < i)) (dVar 5) (dVar 6))) (dGet (dVar 2) (dVar 6)) (dC (.int 0)))))
/-- 0 links, 1 chain, 2 numbers, 3 found, 4 entry, 5 later, 6 least: k09 k11 k12 k72 k73 k79 k80 -/
def g_chain_number (a_need_log a_need_chain a_numbers_to a_next_entries : ASp) : AS :=
  (dSeq (dExpr (dCall a_need_log (dCons (dVar 0) dNil)))
  (dSeq (dExpr (dCall a_need_chain (dCons (dVar 0) (dCons (dVar 1) dNil))))
  (dSeq (dAsg 2 (dCall a_numbers_to (dCons (dVar 0) (dCons (dOp aIx (dVar 1) (dC (.int 0))) (dCons (dOp aIx (dVar 1) (dUn aNeg (dC (.int 1)))) dNil)))))
  (dSeq (dAsg 3 (dC (.int 0)))
  (dSeq (dFor (sZip (dCons (dVar 1) (dCons (dSl false (dVar 1) (dPart (dC (.int 1))) dNoPart) dNil))) (gT 2 (gN1 (gN 4) (gN1 (gN 5) gN0)))
  (b1_chain_number a_need_log a_need_chain a_numbers_to a_next_entries))
  (dRet (dVar 3)))))))
def b1_x_chain_number (a_numbers_to a_next_entries : ASp) (ax_need_log ax_need_chain : AXp) : AS :=
  (dSeq (dAsg 6 (dOp aIx (dCall a_next_entries (dCons (dVar 0) (dCons (dVar 4) (dCons (dOp aIx (dVar 1) (dUn aNeg (dC (.int 1)))) dNil)))) (dC (.int 0))))
  (dAug 3 (aI fun i j => i + j) (dIf (dB (dOp (aB fun i j => decide (j < i)) (dVar 5) (dVar 6))) (dGet (dVar 2) (dVar 6)) (dC (.int 0)))))
/-- 0 links, 1 chain, 2 numbers, 3 found, 4 entry, 5 later, 6 least: k09 k11 k12 k72 k73 k79 k80 -/
def x_chain_number (a_numbers_to a_next_entries : ASp) (ax_need_log ax_need_chain : AXp) : XS :=
  fun Xa =>
  (dSeq (dExpr (rCall ax_need_log (dCons (dVar 0) dNil) Xa))
  (dSeq (dExpr (rCall ax_need_chain (dCons (dVar 0) (dCons (dVar 1) dNil)) Xa))
  (dSeq (dAsg 2 (dCall a_numbers_to (dCons (dVar 0) (dCons (dOp aIx (dVar 1) (dC (.int 0))) (dCons (dOp aIx (dVar 1) (dUn aNeg (dC (.int 1)))) dNil)))))
  (dSeq (dAsg 3 (dC (.int 0)))
  (dSeq (dFor (sZip (dCons (dVar 1) (dCons (dSl false (dVar 1) (dPart (dC (.int 1))) dNoPart) dNil))) (gT 2 (gN1 (gN 4) (gN1 (gN 5) gN0)))
  (b1_x_chain_number a_numbers_to a_next_entries ax_need_log ax_need_chain))
  (dRet (dVar 3)))))))
def b1_law_every (a_law_next a_law_every : ASp) : AS :=
  (dExpr (dMeth aExtend (dVar 3) (dCons (dLc (sList (dCall a_law_every (dCons (dVar 0) (dCons (dVar 4) (dCons (dVar 2) dNil))))) (gN 5) dYes (dOp (aAdd false) (dLst (dCons (dVar 1) dNil)) (dVar 5)) [5]) dNil)))
/-- 0 links, 1 start, 2 end, 3 found, 4 later, 5 rest: k09 k10 k16 -/
def g_law_every (a_law_next a_law_every : ASp) : AS :=
  (dSeq (dIfS (dB (dOp (aEq) (dVar 1) (dVar 2))) (dRet (dLst (dCons (dLst (dCons (dVar 2) dNil)) dNil))) dNext)
  (dSeq (dAsg 3 (dLstM dNil))
  (dSeq (dFor (sList (dCall a_law_next (dCons (dVar 0) (dCons (dVar 1) (dCons (dVar 2) dNil))))) (gN 4)
  (b1_law_every a_law_next a_law_every))
  (dRet (dFrz (dVar 3))))))
def b1_law_every_2 (a_law_targets : ASp) : AS :=
  (dExpr (dMeth aExtend (dVar 3) (dCons (dLc (sList (dCall a_law_targets (dCons (dVar 4) dNil))) (gN 5) dYes (dOp (aAdd false) (dVar 4) (dLst (dCons (dVar 5) dNil))) [5]) dNil)))
def b2_law_every_2 (a_law_targets : ASp) : AS :=
  (dSeq (dAsg 3 (dLstM dNil))
  (dSeq (dFor (sList (dVar 1)) (gN 4)
  (b1_law_every_2 a_law_targets))
  (dAsg 1 (dVar 3))))
/-- 0 size, 1 found, 2 entry, 3 longer, 4 links, 5 target: k41 k45 k47 -/
def g_law_every_2 (a_law_targets : ASp) : AS :=
  (dSeq (dAsg 1 (dLst (dCons (dLst (dCons (dC (.int 0)) dNil)) dNil)))
  (dSeq (dFor (sRng2 (dCons (dC (.int 1)) (dCons (dVar 0) dNil))) (gN 2)
  (b2_law_every_2 a_law_targets))
  (dRet (dVar 1))))
def b1_law_all (a_law_open : ASp) : AS :=
  (dExpr (dMeth aExtend (dVar 3) (dCons (dLc (sList (dCall a_law_open (dCons (dVar 4) dNil))) (gN 5) dYes (dOp (aAdd false) (dVar 4) (dLst (dCons (dVar 5) dNil))) [5]) dNil)))
def b2_law_all (a_law_open : ASp) : AS :=
  (dSeq (dAsg 3 (dLstM dNil))
  (dSeq (dFor (sList (dVar 1)) (gN 4)
  (b1_law_all a_law_open))
  (dAsg 1 (dVar 3))))
/-- 0 size, 1 found, 2 turn, 3 longer, 4 links, 5 goal: k19 k20 -/
def g_law_all (a_law_open : ASp) : AS :=
  (dSeq (dAsg 1 (dLst (dCons (dLst (dCons (dC (.int 0)) dNil)) dNil)))
  (dSeq (dFor (sRng1 (dCons (dOp aSub (dVar 0) (dC (.int 1))) dNil)) (gN 2)
  (b2_law_all a_law_open))
  (dRet (dVar 1))))
/-- 0 size: k12 k17 -/
def g_law_no_entries : AS :=
  (dRet (dLst (dCons (dC .none) (dCons (dUn aNeg (dC (.int 1))) (dCons (dVar 0) (dCons (dC (.bool true)) (dCons (dC (.bool false)) (dCons (dC (.str "0")) (dCons (dLst (dCons (dC (.int 0)) dNil)) (dCons (dTup (dCons (dC (.int 0)) dNil)) (dCons (dOp aPow (dC (.int 10)) (dC (.int 30))) (dCons (dC (.dict [])) (dCons (dUn aNeg (dC (.int 2))) (dCons (dOp aSub (dC (.int 0)) (dVar 0)) (dCons (dOp (aAdd false) (dVar 0) (dC (.int 1))) dNil)))))))))))))))
def b1_greatest_common : AS :=
  (dIfS (dB (dCB aAll (dCons (dLc (sList (dVar 2)) (gN 4) dYes (dOp (aIn false) (dVar 3) (dVar 4)) [4]) dNil))) (dRet (dVar 3)) dNext)
/-- 0 chains, 1 first, 2 others, 3 entry, 4 chain: k14 k15 k16 k17 k18 k56 k69 k70 k71 k72 k73 k78 k79 k80 -/
def g_greatest_common : AS :=
  (dSeq (dAsgHead 1 2 (dVar 0))
  (dSeq (dFor (sList (dVar 1)) (gN 3)
  (b1_greatest_common))
  (dRet (dC .none))))
def b1_meeting_of (a_need_log a_need_chain a_greatest_common : ASp) : AS :=
  (dExpr (dCall a_need_chain (dCons (dVar 0) (dCons (dVar 2) dNil))))
/-- 0 links, 1 chains, 2 chain: k14 k17 k18 k73 k79 -/
def g_meeting_of (a_need_log a_need_chain a_greatest_common : ASp) : AS :=
  (dSeq (dExpr (dCall a_need_log (dCons (dVar 0) dNil)))
  (dSeq (dIfS (dB (dOp (aEq) (dCB aLen (dCons (dVar 1) dNil)) (dC (.int 0)))) dNever dNext)
  (dSeq (dFor (sTup (dVar 1)) (gN 2)
  (b1_meeting_of a_need_log a_need_chain a_greatest_common))
  (dRet (dCallT a_greatest_common (dVar 1))))))
def b1_x_meeting_of (a_greatest_common : ASp) (ax_need_log ax_need_chain : AXp) : XS :=
  fun Xa =>
  (dExpr (rCall ax_need_chain (dCons (dVar 0) (dCons (dVar 2) dNil)) Xa))
/-- 0 links, 1 chains, 2 chain: k14 k17 k18 k73 k79 -/
def x_meeting_of (a_greatest_common : ASp) (ax_need_log ax_need_chain : AXp) : XS :=
  fun Xa =>
  (dSeq (dExpr (rCall ax_need_log (dCons (dVar 0) dNil) Xa))
  (dSeq (dIfS (dB (dOp (aEq) (dCB aLen (dCons (dVar 1) dNil)) (dC (.int 0)))) (xRaise "InvalidChain" Xa) dNext)
  (dSeq (dFor (sTup (dVar 1)) (gN 2)
  (b1_x_meeting_of a_greatest_common ax_need_log ax_need_chain Xa))
  (dRet (dCallT a_greatest_common (dVar 1))))))
/-- 0 links, 1 start, 2 end, 3 other_start, 4 other_end: k15 k16 k17 k18 k56 k69 k70 k71 k72 k73 k78 k79 k80 -/
def g_both_shortest (a_need_log a_need_range a_greedy_chain : ASp) : AS :=
  (dSeq (dExpr (dCall a_need_log (dCons (dVar 0) dNil)))
  (dSeq (dExpr (dCall a_need_range (dCons (dVar 0) (dCons (dVar 1) (dCons (dVar 2) dNil)))))
  (dSeq (dExpr (dCall a_need_range (dCons (dVar 0) (dCons (dVar 3) (dCons (dVar 4) dNil)))))
  (dRet (dTup (dCons (dCall a_greedy_chain (dCons (dVar 0) (dCons (dVar 1) (dCons (dVar 2) dNil)))) (dCons (dCall a_greedy_chain (dCons (dVar 0) (dCons (dVar 3) (dCons (dVar 4) dNil)))) dNil)))))))
/-- 0 links, 1 start, 2 end, 3 other_start, 4 other_end: k15 k16 k17 k18 k56 k69 k70 k71 k72 k73 k78 k79 k80 -/
def x_both_shortest (a_greedy_chain : ASp) (ax_need_log ax_need_range : AXp) : XS :=
  fun Xa =>
  (dSeq (dExpr (rCall ax_need_log (dCons (dVar 0) dNil) Xa))
  (dSeq (dExpr (rCall ax_need_range (dCons (dVar 0) (dCons (dVar 1) (dCons (dVar 2) dNil))) Xa))
  (dSeq (dExpr (rCall ax_need_range (dCons (dVar 0) (dCons (dVar 3) (dCons (dVar 4) dNil))) Xa))
  (dRet (dTup (dCons (dCall a_greedy_chain (dCons (dVar 0) (dCons (dVar 1) (dCons (dVar 2) dNil)))) (dCons (dCall a_greedy_chain (dCons (dVar 0) (dCons (dVar 3) (dCons (dVar 4) dNil)))) dNil)))))))
/-- 0 links, 1 start, 2 end, 3 other_start, 4 other_end, 5 chains: k15 k16 k17 k18 k56 k69 k70 k71 k72 k73 k78 k79 k80 -/
def g_sure_meeting (a_both_shortest a_greatest_common : ASp) : AS :=
  (dSeq (dAsg 5 (dCall a_both_shortest (dCons (dVar 0) (dCons (dVar 1) (dCons (dVar 2) (dCons (dVar 3) (dCons (dVar 4) dNil)))))))
  (dRet (dCallT a_greatest_common (dVar 5))))
/-- 0 links, 1 start, 2 end, 3 other_start, 4 other_end, 5 chains: k15 k16 k17 k18 k56 k69 k70 k71 k72 k73 k78 k79 k80 -/
def x_sure_meeting (a_greatest_common : ASp) (ax_both_shortest : AXp) : XS :=
  fun Xa =>
  (dSeq (dAsg 5 (rCall ax_both_shortest (dCons (dVar 0) (dCons (dVar 1) (dCons (dVar 2) (dCons (dVar 3) (dCons (dVar 4) dNil))))) Xa))
  (dRet (dCallT a_greatest_common (dVar 5))))
/-- 0 links, 1 start, 2 end, 3 other_start, 4 other_end, 5 chains: k16 k17 k18 k73 k79 k80 -/
def g_apart_chains (a_both_shortest a_greatest_common : ASp) : AS :=
  (dSeq (dAsg 5 (dCall a_both_shortest (dCons (dVar 0) (dCons (dVar 1) (dCons (dVar 2) (dCons (dVar 3) (dCons (dVar 4) dNil)))))))
  (dRet (dIf (dB (dIsN (dCallT a_greatest_common (dVar 5)))) (dVar 5) (dC .none))))
/-- 0 links, 1 start, 2 end, 3 other_start, 4 other_end, 5 chains: k16 k17 k18 k73 k79 k80 -/
def x_apart_chains (a_greatest_common : ASp) (ax_both_shortest : AXp) : XS :=
  fun Xa =>
  (dSeq (dAsg 5 (rCall ax_both_shortest (dCons (dVar 0) (dCons (dVar 1) (dCons (dVar 2) (dCons (dVar 3) (dCons (dVar 4) dNil))))) Xa))
  (dRet (dIf (dB (dIsN (dCallT a_greatest_common (dVar 5)))) (dVar 5) (dC .none))))
/-- 0 value: k19 k20 k21 k22 k23 k24 k25 k26 k27 k28 k29 k30 k31 k45 k48 k49 k74 k76 k78 k82 -/
def g_need_size (a_is_integer : ASp) : AS :=
  (dIfS (dNot (dB (dCall a_is_integer (dCons (dVar 0) (dCons (dC (.int 1)) (dCons (dC (.int 150)) dNil)))))) dNever dNext)
/-- 0 value: k19 k20 k21 k22 k23 k24 k25 k26 k27 k28 k29 k30 k31 k45 k48 k49 k74 k76 k78 k82 -/
def x_need_size (a_is_integer : ASp) : XS :=
  fun Xa =>
  (dIfS (dNot (dB (dCall a_is_integer (dCons (dVar 0) (dCons (dC (.int 1)) (dCons (dC (.int 150)) dNil)))))) (xRaise "InvalidSize" Xa) dNext)
def b1_ways_to_go_on : AS :=
  (dExpr (dMeth aAppend (dVar 4) (dCons (dOp (aAdd false) (dOp aIx (dVar 4) (dUn aNeg (dC (.int 1)))) (dOp aIx (dVar 3) (dOp (aAdd false) (dVar 5) (dC (.int 1))))) dNil)))
def b2_ways_to_go_on : AS :=
  (dSeq (dPar2 3 4 (dCons (dOp aIx (dVar 1) (dUn aNeg (dC (.int 1)))) (dCons (dLstM (dCons (dC (.int 0)) dNil)) dNil)))
  (dSeq (dFor (sRng2 (dCons (dC (.int 1)) (dCons (dOp aSub (dCB aLen (dCons (dVar 3) dNil)) (dC (.int 1))) dNil))) (gN 5)
  (b1_ways_to_go_on))
  (dExpr (dMeth aAppend (dVar 1) (dCons (dFrz (dVar 4)) dNil)))))
/-- 0 size, 1 table, 2 left, 3 before, 4 row, 5 many: k19 k20 k21 k22 k23 k74 k78 k81 k82 -/
def g_ways_to_go_on : AS :=
  (dSeq (dAsg 1 (dLstM (dCons (dOp (aMul false) (dLst (dCons (dC (.int 1)) dNil)) (dOp (aAdd false) (dVar 0) (dC (.int 2)))) dNil)))
  (dSeq (dFor (sRng2 (dCons (dC (.int 1)) (dCons (dVar 0) dNil))) (gN 2)
  (b2_ways_to_go_on))
  (dRet (dFrz (dVar 1)))))
/-- 0 size: k19 k20 k21 k22 k23 k74 k82 -/
def g_number_of_logs (a_ways_to_go_on : ASp) : AS :=
  (dRet (dOp aIx (dOp aIx (dCall a_ways_to_go_on (dCons (dVar 0) dNil)) (dOp aSub (dVar 0) (dC (.int 1)))) (dC (.int 1))))
/-- 0 size: k19 k20 k21 k22 k23 -/
def g_count_logs (a_need_size a_number_of_logs : ASp) : AS :=
  (dSeq (dExpr (dCall a_need_size (dCons (dVar 0) dNil)))
  (dRet (dCall a_number_of_logs (dCons (dVar 0) dNil))))
/-- 0 size: k19 k20 k21 k22 k23 -/
def x_count_logs (a_number_of_logs : ASp) (ax_need_size : AXp) : XS :=
  fun Xa =>
  (dSeq (dExpr (rCall ax_need_size (dCons (dVar 0) dNil) Xa))
  (dRet (dCall a_number_of_logs (dCons (dVar 0) dNil))))
/-- 0 script, 1 k, 2 cell: k19 k20 k21 k22 k23 k51 k52 k53 k54 k55 k56 k66 k67 k68 k69 k70 k71 k72 -/
def g_law_reel : AS :=
  (dSeq (dAsg 2 (dC (.int 0)))
  (dSeq (dIfS (dB (dOp (aB fun i j => decide (i < j)) (dVar 1) (dCB aLen (dCons (dVar 0) dNil)))) (dAsg 2 (dOp aIx (dVar 0) (dVar 1))) dNext)
  (dRet (dLstM (dCons (dCB aMax (dCons (dC (.int 0)) (dCons (dOp aSub (dVar 2) (dOp aPow (dC (.int 10)) (dC (.int 18)))) dNil))) (dCons (dOp (aAdd false) (dOp (aAdd false) (dOp (aMul false) (dOp aMod (dVar 2) (dOp (aAdd false) (dOp aPow (dC (.int 10)) (dC (.int 40))) (dC (.int 177)))) (dC (.int 512))) (dOp (aMul false) (dC (.int 31)) (dVar 1))) (dC (.int 9))) (dCons (dC (.int 0)) dNil)))))))
/-- 0 reel, 1 size, 2 found, 3 mixed: k19 k20 k21 k22 k23 k51 k52 k53 k54 k55 k56 k66 k67 k68 k69 k70 k71 k72 -/
def g_law_turn : AS :=
  (dSeq (dIfS (dB (dOp (aB fun i j => decide (j < i)) (dOp aIx (dVar 0) (dC (.int 0))) (dC (.int 0)))) (dSeq (dAsg 2 (dOp aMod (dOp aIx (dVar 0) (dC (.int 0))) (dVar 1)))
  (dSeq (dSetIx (dOp aDiv (dOp aIx (dVar 0) (dC (.int 0))) (dVar 1)) (dVar 0) (dC (.int 0)))
  (dRet (dVar 2)))) dNext)
  (dSeq (dSetIx (dOp (aAdd false) (dOp aIx (dVar 0) (dC (.int 2))) (dC (.int 1))) (dVar 0) (dC (.int 2)))
  (dSeq (dAsg 3 (dOp aMod (dOp aPow (dOp (aAdd false) (dOp aIx (dVar 0) (dC (.int 1))) (dOp (aMul false) (dC (.int 2860486313)) (dOp aIx (dVar 0) (dC (.int 2))))) (dC (.int 3))) (dOp (aAdd false) (dOp aPow (dC (.int 10)) (dC (.int 43))) (dC (.int 57)))))
  (dSeq (dAsg 3 (dOp aMod (dOp (aAdd false) (dOp (aMul false) (dVar 3) (dVar 3)) (dOp (aMul false) (dC (.int 1073676287)) (dOp aIx (dVar 0) (dC (.int 2))))) (dOp (aAdd false) (dOp aPow (dC (.int 10)) (dC (.int 42))) (dC (.int 63)))))
  (dRet (dOp aMod (dOp aDiv (dVar 3) (dC (.int 524347))) (dVar 1)))))))
def b1_law_open : AS :=
  (dIfS (dB (dOp (aEq) (dLc (sRng2 (dCons (dOp (aAdd false) (dVar 2) (dC (.int 1))) (dCons (dCB aLen (dCons (dVar 0) dNil)) dNil))) (gN 3) (dB (dOp (aB fun i j => decide (i < j)) (dOp aIx (dVar 0) (dVar 3)) (dVar 2))) (dVar 3) [3]) (dLst dNil))) (dExpr (dMeth aAppend (dVar 1) (dCons (dVar 2) dNil))) dNext)
/-- 0 links, 1 found, 2 goal, 3 entry: k19 k20 k21 k23 -/
def g_law_open : AS :=
  (dSeq (dAsg 1 (dLstM dNil))
  (dSeq (dFor (sRng1 (dCons (dCB aLen (dCons (dVar 0) dNil)) dNil)) (gN 2)
  (b1_law_open))
  (dRet (dFrz (dVar 1)))))
def t1_nth_log (a_need_size a_ways_to_go_on a_is_integer : ASp) : AT :=
  (dB (dOp (aB fun i j => decide (j ≤ i)) (dVar 1) (dOp aIx (dVar 5) (dOp (aAdd false) (dVar 6) (dC (.int 2))))))
def b1_nth_log (a_need_size a_ways_to_go_on a_is_integer : ASp) : AS :=
  (dSeq (dAug 1 (aI fun i j => i - j) (dOp aIx (dVar 5) (dOp (aAdd false) (dVar 6) (dC (.int 2)))))
  (dAug 6 (aI fun i j => i + j) (dC (.int 1))))
def t2_nth_log (a_need_size a_ways_to_go_on a_is_integer : ASp) : AT :=
  (dB (dOp (aB fun i j => decide (i < j)) (dCB aLen (dCons (dVar 3) dNil)) (dVar 0)))
def b2_nth_log (a_need_size a_ways_to_go_on a_is_integer : ASp) : AS :=
  (dSeq (dPar2 5 6 (dCons (dOp aIx (dVar 2) (dOp aSub (dOp aSub (dVar 0) (dC (.int 1))) (dCB aLen (dCons (dVar 3) dNil)))) (dCons (dC (.int 0)) dNil)))
  (dSeq (dWhile (t1_nth_log a_need_size a_ways_to_go_on a_is_integer) (b1_nth_log a_need_size a_ways_to_go_on a_is_integer))
  (dSeq (dAsg 4 (dOp (aAdd false) (dSl false (dVar 4) dNoPart (dPart (dOp (aAdd false) (dVar 6) (dC (.int 1))))) (dLst (dCons (dCB aLen (dCons (dVar 3) dNil)) dNil))))
  (dExpr (dMeth aAppend (dVar 3) (dCons (dOp aIx (dVar 4) (dVar 6)) dNil))))))
/-- 0 size, 1 number, 2 table, 3 links, 4 allowed, 5 row, 6 place: k21 k22 k23 -/
def g_nth_log (a_need_size a_ways_to_go_on a_is_integer : ASp) : AS :=
  (dSeq (dExpr (dCall a_need_size (dCons (dVar 0) dNil)))
  (dSeq (dAsg 2 (dCall a_ways_to_go_on (dCons (dVar 0) dNil)))
  (dSeq (dIfS (dNot (dB (dCall a_is_integer (dCons (dVar 1) (dCons (dC (.int 0)) (dCons (dOp aSub (dOp aIx (dOp aIx (dVar 2) (dOp aSub (dVar 0) (dC (.int 1)))) (dC (.int 1))) (dC (.int 1))) dNil)))))) dNever dNext)
  (dSeq (dPar2 3 4 (dCons (dLstM (dCons (dC (.int 0)) dNil)) (dCons (dLst (dCons (dC (.int 0)) dNil)) dNil)))
  (dSeq (dWhile (t2_nth_log a_need_size a_ways_to_go_on a_is_integer) (b2_nth_log a_need_size a_ways_to_go_on a_is_integer))
  (dRet (dFrz (dVar 3))))))))
def t1_nth_log_2 (a_need_size a_ways_to_go_on a_is_integer : ASp) : AT :=
  (dB (dOp (aB fun i j => decide (j ≤ i)) (dVar 1) (dOp aIx (dVar 5) (dOp (aAdd false) (dVar 6) (dC (.int 2))))))
def b1_nth_log_2 (a_need_size a_ways_to_go_on a_is_integer : ASp) : AS :=
  (dSeq (dAug 1 (aI fun i j => i - j) (dOp aIx (dVar 5) (dOp (aAdd false) (dVar 6) (dC (.int 2)))))
  (dAug 6 (aI fun i j => i + j) (dC (.int 1))))
def t2_nth_log_2 (a_need_size a_ways_to_go_on a_is_integer : ASp) : AT :=
  (dB (dOp (aB fun i j => decide (i < j)) (dCB aLen (dCons (dVar 3) dNil)) (dVar 0)))
def b2_nth_log_2 (a_need_size a_ways_to_go_on a_is_integer : ASp) : AS :=
  (dSeq (dPar2 5 6 (dCons (dOp aIx (dVar 2) (dOp aSub (dOp aSub (dVar 0) (dC (.int 1))) (dCB aLen (dCons (dVar 3) dNil)))) (dCons (dC (.int 0)) dNil)))
  (dSeq (dWhile (t1_nth_log_2 a_need_size a_ways_to_go_on a_is_integer) (b1_nth_log_2 a_need_size a_ways_to_go_on a_is_integer))
  (dSeq (dAsg 4 (dOp (aAdd false) (dSl false (dVar 4) dNoPart (dPart (dOp (aAdd false) (dVar 6) (dC (.int 1))))) (dLst (dCons (dCB aLen (dCons (dVar 3) dNil)) dNil))))
  (dExpr (dMeth aAppend (dVar 3) (dCons (dOp aIx (dVar 4) (dVar 6)) dNil))))))
/-- 0 size, 1 number, 2 table, 3 links, 4 allowed, 5 row, 6 place: k20 -/
def g_nth_log_2 (a_need_size a_ways_to_go_on a_is_integer : ASp) : AS :=
  (dSeq (dExpr (dCall a_need_size (dCons (dVar 0) dNil)))
  (dSeq (dAsg 2 (dCall a_ways_to_go_on (dCons (dVar 0) dNil)))
  (dSeq (dIfS (dNot (dB (dCall a_is_integer (dCons (dVar 1) (dCons (dC (.int 0)) (dCons (dOp aSub (dOp aIx (dOp aIx (dVar 2) (dOp aSub (dVar 0) (dC (.int 1)))) (dC (.int 1))) (dC (.int 1))) dNil)))))) dNever dNext)
  (dSeq (dPar2 3 4 (dCons (dLstM (dCons (dC (.int 0)) dNil)) (dCons (dLst (dCons (dC (.int 0)) dNil)) dNil)))
  (dSeq (dWhile (t2_nth_log_2 a_need_size a_ways_to_go_on a_is_integer) (b2_nth_log_2 a_need_size a_ways_to_go_on a_is_integer))
  (dRet (dVar 3)))))))
def t1_x_nth_log (a_ways_to_go_on a_is_integer : ASp) (ax_need_size : AXp) : AT :=
  (dB (dOp (aB fun i j => decide (j ≤ i)) (dVar 1) (dOp aIx (dVar 5) (dOp (aAdd false) (dVar 6) (dC (.int 2))))))
def b1_x_nth_log (a_ways_to_go_on a_is_integer : ASp) (ax_need_size : AXp) : AS :=
  (dSeq (dAug 1 (aI fun i j => i - j) (dOp aIx (dVar 5) (dOp (aAdd false) (dVar 6) (dC (.int 2)))))
  (dAug 6 (aI fun i j => i + j) (dC (.int 1))))
def t2_x_nth_log (a_ways_to_go_on a_is_integer : ASp) (ax_need_size : AXp) : AT :=
  (dB (dOp (aB fun i j => decide (i < j)) (dCB aLen (dCons (dVar 3) dNil)) (dVar 0)))
def b2_x_nth_log (a_ways_to_go_on a_is_integer : ASp) (ax_need_size : AXp) : AS :=
  (dSeq (dPar2 5 6 (dCons (dOp aIx (dVar 2) (dOp aSub (dOp aSub (dVar 0) (dC (.int 1))) (dCB aLen (dCons (dVar 3) dNil)))) (dCons (dC (.int 0)) dNil)))
  (dSeq (dWhile (t1_x_nth_log a_ways_to_go_on a_is_integer ax_need_size) (b1_x_nth_log a_ways_to_go_on a_is_integer ax_need_size))
  (dSeq (dAsg 4 (dOp (aAdd false) (dSl false (dVar 4) dNoPart (dPart (dOp (aAdd false) (dVar 6) (dC (.int 1))))) (dLst (dCons (dCB aLen (dCons (dVar 3) dNil)) dNil))))
  (dExpr (dMeth aAppend (dVar 3) (dCons (dOp aIx (dVar 4) (dVar 6)) dNil))))))
/-- 0 size, 1 number, 2 table, 3 links, 4 allowed, 5 row, 6 place: k21 k22 k23 -/
def x_nth_log (a_ways_to_go_on a_is_integer : ASp) (ax_need_size : AXp) : XS :=
  fun Xa =>
  (dSeq (dExpr (rCall ax_need_size (dCons (dVar 0) dNil) Xa))
  (dSeq (dAsg 2 (dCall a_ways_to_go_on (dCons (dVar 0) dNil)))
  (dSeq (dIfS (dNot (dB (dCall a_is_integer (dCons (dVar 1) (dCons (dC (.int 0)) (dCons (dOp aSub (dOp aIx (dOp aIx (dVar 2) (dOp aSub (dVar 0) (dC (.int 1)))) (dC (.int 1))) (dC (.int 1))) dNil)))))) (xRaise "InvalidNumber" Xa) dNext)
  (dSeq (dPar2 3 4 (dCons (dLstM (dCons (dC (.int 0)) dNil)) (dCons (dLst (dCons (dC (.int 0)) dNil)) dNil)))
  (dSeq (dWhile (t2_x_nth_log a_ways_to_go_on a_is_integer ax_need_size) (b2_x_nth_log a_ways_to_go_on a_is_integer ax_need_size))
  (dRet (dFrz (dVar 3))))))))
def t1_x_nth_log_2 (a_ways_to_go_on a_is_integer : ASp) (ax_need_size : AXp) : AT :=
  (dB (dOp (aB fun i j => decide (j ≤ i)) (dVar 1) (dOp aIx (dVar 5) (dOp (aAdd false) (dVar 6) (dC (.int 2))))))
def b1_x_nth_log_2 (a_ways_to_go_on a_is_integer : ASp) (ax_need_size : AXp) : AS :=
  (dSeq (dAug 1 (aI fun i j => i - j) (dOp aIx (dVar 5) (dOp (aAdd false) (dVar 6) (dC (.int 2)))))
  (dAug 6 (aI fun i j => i + j) (dC (.int 1))))
def t2_x_nth_log_2 (a_ways_to_go_on a_is_integer : ASp) (ax_need_size : AXp) : AT :=
  (dB (dOp (aB fun i j => decide (i < j)) (dCB aLen (dCons (dVar 3) dNil)) (dVar 0)))
def b2_x_nth_log_2 (a_ways_to_go_on a_is_integer : ASp) (ax_need_size : AXp) : AS :=
  (dSeq (dPar2 5 6 (dCons (dOp aIx (dVar 2) (dOp aSub (dOp aSub (dVar 0) (dC (.int 1))) (dCB aLen (dCons (dVar 3) dNil)))) (dCons (dC (.int 0)) dNil)))
  (dSeq (dWhile (t1_x_nth_log_2 a_ways_to_go_on a_is_integer ax_need_size) (b1_x_nth_log_2 a_ways_to_go_on a_is_integer ax_need_size))
  (dSeq (dAsg 4 (dOp (aAdd false) (dSl false (dVar 4) dNoPart (dPart (dOp (aAdd false) (dVar 6) (dC (.int 1))))) (dLst (dCons (dCB aLen (dCons (dVar 3) dNil)) dNil))))
  (dExpr (dMeth aAppend (dVar 3) (dCons (dOp aIx (dVar 4) (dVar 6)) dNil))))))
/-- 0 size, 1 number, 2 table, 3 links, 4 allowed, 5 row, 6 place: k20 -/
def x_nth_log_2 (a_ways_to_go_on a_is_integer : ASp) (ax_need_size : AXp) : XS :=
  fun Xa =>
  (dSeq (dExpr (rCall ax_need_size (dCons (dVar 0) dNil) Xa))
  (dSeq (dAsg 2 (dCall a_ways_to_go_on (dCons (dVar 0) dNil)))
  (dSeq (dIfS (dNot (dB (dCall a_is_integer (dCons (dVar 1) (dCons (dC (.int 0)) (dCons (dOp aSub (dOp aIx (dOp aIx (dVar 2) (dOp aSub (dVar 0) (dC (.int 1)))) (dC (.int 1))) (dC (.int 1))) dNil)))))) (xRaise "InvalidNumber" Xa) dNext)
  (dSeq (dPar2 3 4 (dCons (dLstM (dCons (dC (.int 0)) dNil)) (dCons (dLst (dCons (dC (.int 0)) dNil)) dNil)))
  (dSeq (dWhile (t2_x_nth_log_2 a_ways_to_go_on a_is_integer ax_need_size) (b2_x_nth_log_2 a_ways_to_go_on a_is_integer ax_need_size))
  (dRet (dVar 3)))))))
def b1_log_number (a_need_log a_ways_to_go_on : ASp) : AS :=
  (dSeq (dAsg 5 (dOp aIx (dVar 1) (dOp aSub (dOp aSub (dCB aLen (dCons (dVar 0) dNil)) (dC (.int 1))) (dVar 4))))
  (dSeq (dAsg 6 (dMeth aIndex (dVar 3) (dCons (dOp aIx (dVar 0) (dVar 4)) dNil)))
  (dSeq (dAug 2 (aI fun i j => i + j) (dCB aSum (dCons (dSl false (dVar 5) (dPart (dC (.int 2))) (dPart (dOp (aAdd false) (dVar 6) (dC (.int 2))))) dNil)))
  (dAsg 3 (dOp (aAdd false) (dSl false (dVar 3) dNoPart (dPart (dOp (aAdd false) (dVar 6) (dC (.int 1))))) (dLst (dCons (dVar 4) dNil)))))))
/-- 0 links, 1 table, 2 found, 3 allowed, 4 entry, 5 row, 6 place: k20 k21 k22 k23 k74 k78 k81 k82 -/
def g_log_number (a_need_log a_ways_to_go_on : ASp) : AS :=
  (dSeq (dExpr (dCall a_need_log (dCons (dVar 0) dNil)))
  (dSeq (dAsg 1 (dCall a_ways_to_go_on (dCons (dCB aLen (dCons (dVar 0) dNil)) dNil)))
  (dSeq (dPar2 2 3 (dCons (dC (.int 0)) (dCons (dLst (dCons (dC (.int 0)) dNil)) dNil)))
  (dSeq (dFor (sRng2 (dCons (dC (.int 1)) (dCons (dCB aLen (dCons (dVar 0) dNil)) dNil))) (gN 4)
  (b1_log_number a_need_log a_ways_to_go_on))
  (dRet (dVar 2))))))
def b1_x_log_number (a_ways_to_go_on : ASp) (ax_need_log : AXp) : AS :=
  (dSeq (dAsg 5 (dOp aIx (dVar 1) (dOp aSub (dOp aSub (dCB aLen (dCons (dVar 0) dNil)) (dC (.int 1))) (dVar 4))))
  (dSeq (dAsg 6 (dMeth aIndex (dVar 3) (dCons (dOp aIx (dVar 0) (dVar 4)) dNil)))
  (dSeq (dAug 2 (aI fun i j => i + j) (dCB aSum (dCons (dSl false (dVar 5) (dPart (dC (.int 2))) (dPart (dOp (aAdd false) (dVar 6) (dC (.int 2))))) dNil)))
  (dAsg 3 (dOp (aAdd false) (dSl false (dVar 3) dNoPart (dPart (dOp (aAdd false) (dVar 6) (dC (.int 1))))) (dLst (dCons (dVar 4) dNil)))))))
/-- 0 links, 1 table, 2 found, 3 allowed, 4 entry, 5 row, 6 place: k20 k21 k22 k23 k74 k78 k81 k82 -/
def x_log_number (a_ways_to_go_on : ASp) (ax_need_log : AXp) : XS :=
  fun Xa =>
  (dSeq (dExpr (rCall ax_need_log (dCons (dVar 0) dNil) Xa))
  (dSeq (dAsg 1 (dCall a_ways_to_go_on (dCons (dCB aLen (dCons (dVar 0) dNil)) dNil)))
  (dSeq (dPar2 2 3 (dCons (dC (.int 0)) (dCons (dLst (dCons (dC (.int 0)) dNil)) dNil)))
  (dSeq (dFor (sRng2 (dCons (dC (.int 1)) (dCons (dCB aLen (dCons (dVar 0) dNil)) dNil))) (gN 4)
  (b1_x_log_number a_ways_to_go_on ax_need_log))
  (dRet (dVar 2))))))
def b1_law_grown (a_law_turn : ASp) : AS :=
  (dSeq (dAsg 6 (dCB aLen (dCons (dVar 4) dNil)))
  (dSeq (dPar2 7 8 (dCons (dCall a_law_turn (dCons (dVar 0) (dCons (dCB aMin (dCons (dC (.int 2)) (dCons (dVar 6) dNil))) dNil))) (dCons (dOp aSub (dOp aSub (dVar 6) (dC (.int 1))) (dCall a_law_turn (dCons (dVar 0) (dCons (dCB aMin (dCons (dC (.int 3)) (dCons (dVar 6) dNil))) dNil)))) dNil)))
  (dSeq (dAsg 9 (dIf (dB (dOp (aEq) (dCall a_law_turn (dCons (dVar 0) (dCons (dC (.int 6)) dNil))) (dC (.int 0)))) (dCall a_law_turn (dCons (dVar 0) (dCons (dVar 6) dNil))) (dOp aSub (dVar 6) (dC (.int 1)))))
  (dSeq (dAsg 10 (dOp aIx (dLst (dCons (dCall a_law_turn (dCons (dVar 0) (dCons (dVar 6) dNil))) (dCons (dVar 7) (dCons (dVar 8) (dCons (dVar 9) (dCons (dOp aDiv (dVar 6) (dC (.int 2))) (dCons (dCall a_law_turn (dCons (dVar 0) (dCons (dVar 6) dNil))) dNil))))))) (dVar 2)))
  (dSeq (dExpr (dMeth aAppend (dVar 3) (dCons (dOp aIx (dVar 4) (dVar 10)) dNil)))
  (dAsg 4 (dOp (aAdd false) (dSl false (dVar 4) dNoPart (dPart (dOp (aAdd false) (dVar 10) (dC (.int 1))))) (dLst (dCons (dVar 5) dNil)))))))))
/-- 0 reel, 1 size, 2 style, 3 found, 4 some, 5 entry, 6 many, 7 low, 8 high, 9 rare, 10 at: k21 k22 k23 k67 k68 k69 k70 k71 k72 -/
def g_law_grown (a_law_turn : ASp) : AS :=
  (dSeq (dPar3 2 3 4 (dCons (dCall a_law_turn (dCons (dVar 0) (dCons (dC (.int 6)) dNil))) (dCons (dLstM (dCons (dC (.int 0)) dNil)) (dCons (dLst (dCons (dC (.int 0)) dNil)) dNil))))
  (dSeq (dFor (sRng2 (dCons (dC (.int 1)) (dCons (dVar 1) dNil))) (gN 5)
  (b1_law_grown a_law_turn))
  (dRet (dFrz (dVar 3)))))
def b1_law_grown_2 (a_law_take a_law_allowed : ASp) : AS :=
  (dSeq (dAsg 6 (dCall a_law_allowed (dCons (dVar 3) dNil)))
  (dSeq (dAsg 7 (dCall a_law_take (dCons (dVar 0) (dCons (dCB aLen (dCons (dVar 6) dNil)) dNil))))
  (dSeq (dAsg 8 (dOp aIx (dLst (dCons (dVar 7) (dCons (dOp aSub (dCB aLen (dCons (dVar 6) dNil)) (dC (.int 1))) (dCons (dC (.int 0)) (dCons (dOp aDiv (dCB aLen (dCons (dVar 6) dNil)) (dC (.int 2))) dNil))))) (dVar 4)))
  (dExpr (dMeth aAppend (dVar 3) (dCons (dOp aIx (dVar 6) (dIf (dB (dOp (aB fun i j => decide (j < i)) (dCall a_law_take (dCons (dVar 0) (dCons (dC (.int 5)) dNil))) (dC (.int 0)))) (dVar 8) (dVar 7))) dNil))))))
/-- 0 bag, 1 links, 2 many, 3 found, 4 style, 5 turn, 6 able, 7 drawn, 8 spot: k80 k81 k82 -/
def g_law_grown_2 (a_law_take a_law_allowed : ASp) : AS :=
  (dSeq (dPar2 3 4 (dCons (dCB (aList true) (dCons (dVar 1) dNil)) (dCons (dCall a_law_take (dCons (dVar 0) (dCons (dC (.int 4)) dNil))) dNil)))
  (dSeq (dFor (sRng1 (dCons (dVar 2) dNil)) (gN 5)
  (b1_law_grown_2 a_law_take a_law_allowed))
  (dRet (dFrz (dVar 3)))))
/-- 0 value, 1 least, 2 most: k21 k22 k55 k66 k67 k68 k69 k70 k71 -/
def g_law_whole : AS :=
  (dRet (dAndV (dIsi "int" (dVar 0)) (dAndV (dNotV (dIsi "bool" (dVar 0))) (dChain (aB fun i j => decide (i ≤ j)) (aB fun i j => decide (i ≤ j)) (dVar 1) (dVar 0) (dVar 2)))))
def b1_law_is_log (a_law_whole : ASp) : AS :=
  (dIfS (dNot (dB (dCall a_law_whole (dCons (dVar 2) (dCons (dC (.int 0)) (dCons (dCB aMax (dCons (dC (.int 0)) (dCons (dOp aSub (dVar 1) (dC (.int 1))) dNil))) dNil)))))) (dRet (dC (.bool false))) dNext)
def b2_law_is_log (a_law_whole : ASp) : AS :=
  (dSeq (dAsg 2 (dOp aIx (dVar 0) (dVar 1)))
  (dIfS (dB (dOp (aNe) (dLc (sRng2 (dCons (dOp (aAdd false) (dVar 2) (dC (.int 1))) (dCons (dVar 1) dNil))) (gN 3) (dB (dOp (aB fun i j => decide (i < j)) (dOp aIx (dVar 0) (dVar 3)) (dVar 2))) (dVar 3) [3]) (dLst dNil))) (dRet (dC (.bool false))) dNext))
/-- 0 value, 1 entry, 2 link, 3 other: k21 k22 k55 k66 k67 k68 k69 k70 k71 -/
def g_law_is_log (a_law_whole : ASp) : AS :=
  (dSeq (dIfS (dOr (dNot (dB (dIsi "list" (dVar 0)))) (dOr (dB (dOp (aB fun i j => decide (i < j)) (dCB aLen (dCons (dVar 0) dNil)) (dC (.int 1)))) (dB (dOp (aB fun i j => decide (j < i)) (dCB aLen (dCons (dVar 0) dNil)) (dC (.int 150)))))) (dRet (dC (.bool false))) dNext)
  (dSeq (dFor (sEnum (dCons (dVar 0) dNil)) (gT 2 (gN1 (gN 1) (gN1 (gN 2) gN0)))
  (b1_law_is_log a_law_whole))
  (dSeq (dFor (sRng2 (dCons (dC (.int 1)) (dCons (dCB aLen (dCons (dVar 0) dNil)) dNil))) (gN 1)
  (b2_law_is_log a_law_whole))
  (dRet (dC (.bool true))))))
/-- 0 caught, 1 kinds, 2 names, 3 found, 4 name, 5 kind: k22 k55 k67 k68 k69 k70 k71 -/
def g_law_kinds : AS :=
  (dSeq (dAsg 1 (dLst (dCons (dIsx ["InvalidLog", "InvalidEntry", "InvalidTarget", "InvalidChain", "InvalidNumber", "InvalidSize", "InvalidKnown", "InvalidPrices", "InvalidBase", "InvalidTag", "InvalidText", "InvalidCommand", "Different", "NothingToUndo"] "Crossing" (dVar 0)) (dCons (dIsx ["InvalidLog", "InvalidEntry", "InvalidTarget", "InvalidChain", "InvalidNumber", "InvalidSize", "InvalidKnown", "InvalidPrices", "InvalidBase", "InvalidTag", "InvalidText", "InvalidCommand", "Different", "NothingToUndo"] "Different" (dVar 0)) (dCons (dIsx ["InvalidLog", "InvalidEntry", "InvalidTarget", "InvalidChain", "InvalidNumber", "InvalidSize", "InvalidKnown", "InvalidPrices", "InvalidBase", "InvalidTag", "InvalidText", "InvalidCommand", "Different", "NothingToUndo"] "InvalidBase" (dVar 0)) dNil)))))
  (dSeq (dAsg 1 (dOp (aAdd false) (dVar 1) (dLst (dCons (dIsx ["InvalidLog", "InvalidEntry", "InvalidTarget", "InvalidChain", "InvalidNumber", "InvalidSize", "InvalidKnown", "InvalidPrices", "InvalidBase", "InvalidTag", "InvalidText", "InvalidCommand", "Different", "NothingToUndo"] "InvalidChain" (dVar 0)) (dCons (dIsx ["InvalidLog", "InvalidEntry", "InvalidTarget", "InvalidChain", "InvalidNumber", "InvalidSize", "InvalidKnown", "InvalidPrices", "InvalidBase", "InvalidTag", "InvalidText", "InvalidCommand", "Different", "NothingToUndo"] "InvalidChange" (dVar 0)) dNil)))))
  (dSeq (dAsg 1 (dOp (aAdd false) (dVar 1) (dLst (dCons (dIsx ["InvalidLog", "InvalidEntry", "InvalidTarget", "InvalidChain", "InvalidNumber", "InvalidSize", "InvalidKnown", "InvalidPrices", "InvalidBase", "InvalidTag", "InvalidText", "InvalidCommand", "Different", "NothingToUndo"] "InvalidCommand" (dVar 0)) (dCons (dIsx ["InvalidLog", "InvalidEntry", "InvalidTarget", "InvalidChain", "InvalidNumber", "InvalidSize", "InvalidKnown", "InvalidPrices", "InvalidBase", "InvalidTag", "InvalidText", "InvalidCommand", "Different", "NothingToUndo"] "InvalidEntry" (dVar 0)) dNil)))))
  (dSeq (dAsg 1 (dOp (aAdd false) (dVar 1) (dLst (dCons (dIsx ["InvalidLog", "InvalidEntry", "InvalidTarget", "InvalidChain", "InvalidNumber", "InvalidSize", "InvalidKnown", "InvalidPrices", "InvalidBase", "InvalidTag", "InvalidText", "InvalidCommand", "Different", "NothingToUndo"] "InvalidKnown" (dVar 0)) (dCons (dIsx ["InvalidLog", "InvalidEntry", "InvalidTarget", "InvalidChain", "InvalidNumber", "InvalidSize", "InvalidKnown", "InvalidPrices", "InvalidBase", "InvalidTag", "InvalidText", "InvalidCommand", "Different", "NothingToUndo"] "InvalidLog" (dVar 0)) dNil)))))
  (dSeq (dAsg 1 (dOp (aAdd false) (dVar 1) (dLst (dCons (dIsx ["InvalidLog", "InvalidEntry", "InvalidTarget", "InvalidChain", "InvalidNumber", "InvalidSize", "InvalidKnown", "InvalidPrices", "InvalidBase", "InvalidTag", "InvalidText", "InvalidCommand", "Different", "NothingToUndo"] "InvalidNumber" (dVar 0)) (dCons (dIsx ["InvalidLog", "InvalidEntry", "InvalidTarget", "InvalidChain", "InvalidNumber", "InvalidSize", "InvalidKnown", "InvalidPrices", "InvalidBase", "InvalidTag", "InvalidText", "InvalidCommand", "Different", "NothingToUndo"] "InvalidPrices" (dVar 0)) dNil)))))
  (dSeq (dAsg 1 (dOp (aAdd false) (dVar 1) (dLst (dCons (dIsx ["InvalidLog", "InvalidEntry", "InvalidTarget", "InvalidChain", "InvalidNumber", "InvalidSize", "InvalidKnown", "InvalidPrices", "InvalidBase", "InvalidTag", "InvalidText", "InvalidCommand", "Different", "NothingToUndo"] "InvalidSize" (dVar 0)) (dCons (dIsx ["InvalidLog", "InvalidEntry", "InvalidTarget", "InvalidChain", "InvalidNumber", "InvalidSize", "InvalidKnown", "InvalidPrices", "InvalidBase", "InvalidTag", "InvalidText", "InvalidCommand", "Different", "NothingToUndo"] "InvalidTag" (dVar 0)) dNil)))))
  (dSeq (dAsg 1 (dOp (aAdd false) (dVar 1) (dLst (dCons (dIsx ["InvalidLog", "InvalidEntry", "InvalidTarget", "InvalidChain", "InvalidNumber", "InvalidSize", "InvalidKnown", "InvalidPrices", "InvalidBase", "InvalidTag", "InvalidText", "InvalidCommand", "Different", "NothingToUndo"] "InvalidTarget" (dVar 0)) (dCons (dIsx ["InvalidLog", "InvalidEntry", "InvalidTarget", "InvalidChain", "InvalidNumber", "InvalidSize", "InvalidKnown", "InvalidPrices", "InvalidBase", "InvalidTag", "InvalidText", "InvalidCommand", "Different", "NothingToUndo"] "InvalidText" (dVar 0)) dNil)))))
  (dSeq (dAsg 1 (dOp (aAdd false) (dVar 1) (dLst (dCons (dIsx ["InvalidLog", "InvalidEntry", "InvalidTarget", "InvalidChain", "InvalidNumber", "InvalidSize", "InvalidKnown", "InvalidPrices", "InvalidBase", "InvalidTag", "InvalidText", "InvalidCommand", "Different", "NothingToUndo"] "NothingToUndo" (dVar 0)) dNil))))
  (dSeq (dAsg 2 (dLst (dCons (dC (.str "Crossing")) (dCons (dC (.str "Different")) (dCons (dC (.str "InvalidBase")) (dCons (dC (.str "InvalidChain")) (dCons (dC (.str "InvalidChange")) (dCons (dC (.str "InvalidCommand")) dNil))))))))
  (dSeq (dAsg 2 (dOp (aAdd false) (dVar 2) (dLst (dCons (dC (.str "InvalidEntry")) (dCons (dC (.str "InvalidKnown")) (dCons (dC (.str "InvalidLog")) (dCons (dC (.str "InvalidNumber")) (dCons (dC (.str "InvalidPrices")) dNil))))))))
  (dSeq (dAsg 2 (dOp (aAdd false) (dVar 2) (dLst (dCons (dC (.str "InvalidSize")) (dCons (dC (.str "InvalidTag")) (dCons (dC (.str "InvalidTarget")) (dCons (dC (.str "InvalidText")) (dCons (dC (.str "NothingToUndo")) dNil))))))))
  (dSeq (dAsg 3 (dLcM (sZip (dCons (dVar 2) (dCons (dVar 1) dNil))) (gT 2 (gN1 (gN 4) (gN1 (gN 5) gN0))) (dB (dVar 5)) (dVar 4) [4, 5]))
  (dSeq (dIfS (dOr (dNot (dB (dIsx ["InvalidLog", "InvalidEntry", "InvalidTarget", "InvalidChain", "InvalidNumber", "InvalidSize", "InvalidKnown", "InvalidPrices", "InvalidBase", "InvalidTag", "InvalidText", "InvalidCommand", "Different", "NothingToUndo"] "BacklinkError" (dVar 0)))) (dNot (dB (dIsx ["InvalidLog", "InvalidEntry", "InvalidTarget", "InvalidChain", "InvalidNumber", "InvalidSize", "InvalidKnown", "InvalidPrices", "InvalidBase", "InvalidTag", "InvalidText", "InvalidCommand", "Different", "NothingToUndo"] "ValueError" (dVar 0))))) (dExpr (dMeth aAppend (dVar 3) (dCons (dC (.str "odd")) dNil))) dNext)
  (dRet (dFrz (dVar 3))))))))))))))))
/-- 0 size, 1 value: k24 k30 -/
def g_are_known (a_need_size a_are_known_of : ASp) : AS :=
  (dSeq (dExpr (dCall a_need_size (dCons (dVar 0) dNil)))
  (dRet (dCall a_are_known_of (dCons (dVar 0) (dCons (dVar 1) dNil)))))
/-- 0 size, 1 value: k24 k30 -/
def x_are_known (a_are_known_of : ASp) (ax_need_size : AXp) : XS :=
  fun Xa =>
  (dSeq (dExpr (rCall ax_need_size (dCons (dVar 0) dNil) Xa))
  (dRet (dCall a_are_known_of (dCons (dVar 0) (dCons (dVar 1) dNil)))))
def t1_law_known (a_law_drip : ASp) : AT :=
  (dB (dOp (aNe) (dVar 3) (dLst dNil)))
def b1_law_known (a_law_drip : ASp) : AS :=
  (dSeq (dAsg 5 (dMeth aPopAt (dVar 3) (dCons (dCall a_law_drip (dCons (dVar 0) (dCons (dCB aLen (dCons (dVar 3) dNil)) dNil))) dNil)))
  (dIfS (dB (dOp (aB fun i j => decide (i < j)) (dCall a_law_drip (dCons (dVar 0) (dCons (dC (.int 4)) dNil))) (dVar 2))) (dPut (dOp aIx (dVar 1) (dVar 5)) (dVar 4) (dVar 5)) dNext))
/-- 0 vat, 1 links, 2 share, 3 left, 4 found, 5 entry: k24 k27 k28 k29 k30 k31 -/
def g_law_known (a_law_drip : ASp) : AS :=
  (dSeq (dPar3 2 3 4 (dCons (dCall a_law_drip (dCons (dVar 0) (dCons (dC (.int 5)) dNil))) (dCons (dLRg2 true (dC (.int 1)) (dCB aLen (dCons (dVar 1) dNil))) (dCons dDctM0 dNil))))
  (dSeq (dWhile (t1_law_known a_law_drip) (b1_law_known a_law_drip))
  (dRet (dFrz (dVar 4)))))
def t1_law_known_2 (a_law_drip : ASp) : AT :=
  (dB (dOp (aNe) (dVar 3) (dLst dNil)))
def b1_law_known_2 (a_law_drip : ASp) : AS :=
  (dSeq (dAsg 5 (dMeth aPopAt (dVar 3) (dCons (dCall a_law_drip (dCons (dVar 0) (dCons (dCB aLen (dCons (dVar 3) dNil)) dNil))) dNil)))
  (dIfS (dB (dOp (aB fun i j => decide (i < j)) (dCall a_law_drip (dCons (dVar 0) (dCons (dC (.int 4)) dNil))) (dVar 2))) (dPut (dOp aIx (dVar 1) (dVar 5)) (dVar 4) (dVar 5)) dNext))
/-- 0 vat, 1 links, 2 share, 3 left, 4 found, 5 entry: k25 k26 -/
def g_law_known_2 (a_law_drip : ASp) : AS :=
  (dSeq (dPar3 2 3 4 (dCons (dCall a_law_drip (dCons (dVar 0) (dCons (dC (.int 5)) dNil))) (dCons (dLRg2 true (dC (.int 1)) (dCB aLen (dCons (dVar 1) dNil))) (dCons dDctM0 dNil))))
  (dSeq (dWhile (t1_law_known_2 a_law_drip) (b1_law_known_2 a_law_drip))
  (dRet (dVar 4))))
/-- 0 rows, 1 known, 2 links, 3 entry: k24 k25 k26 k27 k28 k29 k30 k31 -/
def g_law_completions : AS :=
  (dRet (dLc (sList (dVar 0)) (gN 2) (dB (dOp (aEq) (dLc (sList (dVar 1)) (gN 3) (dB (dOp (aNe) (dOp aIx (dVar 2) (dVar 3)) (dOp aIx (dVar 1) (dVar 3)))) (dVar 3) [3]) (dLst dNil))) (dVar 2) [2]))
/-- 0 size, 1 known: k25 k26 k27 k28 k29 k30 k31 -/
def g_need_known (a_need_size a_are_known_of : ASp) : AS :=
  (dSeq (dExpr (dCall a_need_size (dCons (dVar 0) dNil)))
  (dIfS (dNot (dB (dCall a_are_known_of (dCons (dVar 0) (dCons (dVar 1) dNil))))) dNever dNext))
/-- 0 size, 1 known: k25 k26 k27 k28 k29 k30 k31 -/
def x_need_known (a_are_known_of : ASp) (ax_need_size : AXp) : XS :=
  fun Xa =>
  (dSeq (dExpr (rCall ax_need_size (dCons (dVar 0) dNil) Xa))
  (dIfS (dNot (dB (dCall a_are_known_of (dCons (dVar 0) (dCons (dVar 1) dNil))))) (xRaise "InvalidKnown" Xa) dNext))
/-- 0 size, 1 known: k25 k28 k30 k31 k74 -/
def g_known_crossing (a_need_known a_crossing_of : ASp) : AS :=
  (dSeq (dExpr (dCall a_need_known (dCons (dVar 0) (dCons (dVar 1) dNil))))
  (dRet (dCall a_crossing_of (dCons (dVar 1) dNil))))
/-- 0 size, 1 known: k25 k28 k30 k31 k74 -/
def x_known_crossing (a_crossing_of : ASp) (ax_need_known : AXp) : XS :=
  fun Xa =>
  (dSeq (dExpr (rCall ax_need_known (dCons (dVar 0) (dCons (dVar 1) dNil)) Xa))
  (dRet (dCall a_crossing_of (dCons (dVar 1) dNil))))
def t1_wall : AT :=
  (dB (dC (.bool true)))
def b1_wall : AS :=
  dNext
/-- 0 k: k26 k57 k58 k59 k60 k61 k69 k70 k71 k72 k79 -/
def g_wall : AS :=
  (dWhile (t1_wall) (b1_wall))
/-- 0 size, 1 known, 2 pair: k26 k27 k28 k29 k30 k31 k74 k78 k82 -/
def g_need_no_crossing (a_need_known a_crossing_of : ASp) : AS :=
  (dSeq (dExpr (dCall a_need_known (dCons (dVar 0) (dCons (dVar 1) dNil))))
  (dSeq (dAsg 2 (dCall a_crossing_of (dCons (dVar 1) dNil)))
  (dIfS (dB (dNotN (dVar 2))) dNever dNext)))
/-- 0 size, 1 known, 2 pair: k26 k27 k28 k29 k30 k31 k74 k78 k82 -/
def x_need_no_crossing (a_crossing_of : ASp) (ax_need_known : AXp) : XS :=
  fun Xa =>
  (dSeq (dExpr (rCall ax_need_known (dCons (dVar 0) (dCons (dVar 1) dNil)) Xa))
  (dSeq (dAsg 2 (dCall a_crossing_of (dCons (dVar 1) dNil)))
  (dIfS (dB (dNotN (dVar 2))) (xRaiseI "Crossing" (dCons (dOp aIx (dVar 2) (dC (.int 0))) (dCons (dOp aIx (dVar 2) (dC (.int 1))) dNil)) Xa) dNext)))
def b1_law_logs : AS :=
  (dIfS (dB (dOp (aEq) (dLc (sRng2 (dCons (dOp (aAdd false) (dVar 5) (dC (.int 1))) (dCons (dVar 2) dNil))) (gN 6) (dB (dOp (aB fun i j => decide (i < j)) (dOp aIx (dVar 4) (dVar 6)) (dVar 5))) (dVar 6) [6]) (dLst dNil))) (dExpr (dMeth aAppend (dVar 3) (dCons (dOp (aAdd false) (dVar 4) (dLst (dCons (dVar 5) dNil))) dNil))) dNext)
def b2_law_logs : AS :=
  (dFor (sRng1 (dCons (dVar 2) dNil)) (gN 5)
  (b1_law_logs))
def b3_law_logs : AS :=
  (dSeq (dAsg 3 (dLstM dNil))
  (dSeq (dFor (sList (dVar 1)) (gN 4)
  (b2_law_logs))
  (dAsg 1 (dVar 3))))
/-- 0 size, 1 found, 2 entry, 3 longer, 4 links, 5 target, 6 one: k26 k27 k29 -/
def g_law_logs : AS :=
  (dSeq (dAsg 1 (dLst (dCons (dLst (dCons (dC (.int 0)) dNil)) dNil)))
  (dSeq (dFor (sRng2 (dCons (dC (.int 1)) (dCons (dVar 0) dNil))) (gN 2)
  (b3_law_logs))
  (dRet (dVar 1))))
def b1_law_logs_2 (a_law_allowed : ASp) : AS :=
  (dExpr (dMeth aExtend (dVar 3) (dCons (dLc (sList (dCall a_law_allowed (dCons (dVar 4) dNil))) (gN 5) dYes (dOp (aAdd false) (dVar 4) (dLst (dCons (dVar 5) dNil))) [5]) dNil)))
def b2_law_logs_2 (a_law_allowed : ASp) : AS :=
  (dSeq (dAsg 3 (dLstM dNil))
  (dSeq (dFor (sList (dVar 1)) (gN 4)
  (b1_law_logs_2 a_law_allowed))
  (dAsg 1 (dVar 3))))
/-- 0 size, 1 found, 2 turn, 3 longer, 4 links, 5 target: k74 k75 k76 -/
def g_law_logs_2 (a_law_allowed : ASp) : AS :=
  (dSeq (dAsg 1 (dLst (dCons (dLst (dCons (dC (.int 0)) dNil)) dNil)))
  (dSeq (dFor (sRng1 (dCons (dOp aSub (dVar 0) (dC (.int 1))) dNil)) (gN 2)
  (b2_law_logs_2 a_law_allowed))
  (dRet (dVar 1))))
/-- 0 size, 1 start, 2 end: k29 k30 k31 k74 k82 -/
def g_need_range_of (a_is_integer : ASp) : AS :=
  (dIfS (dOr (dNot (dB (dCall a_is_integer (dCons (dVar 1) (dCons (dC (.int 0)) (dCons (dOp aSub (dVar 0) (dC (.int 1))) dNil)))))) (dNot (dB (dCall a_is_integer (dCons (dVar 2) (dCons (dC (.int 0)) (dCons (dVar 1) dNil))))))) dNever dNext)
/-- 0 size, 1 start, 2 end: k29 k30 k31 k74 k82 -/
def x_need_range_of (a_is_integer : ASp) : XS :=
  fun Xa =>
  (dIfS (dOr (dNot (dB (dCall a_is_integer (dCons (dVar 1) (dCons (dC (.int 0)) (dCons (dOp aSub (dVar 0) (dC (.int 1))) dNil)))))) (dNot (dB (dCall a_is_integer (dCons (dVar 2) (dCons (dC (.int 0)) (dCons (dVar 1) dNil))))))) (xRaise "InvalidEntry" Xa) dNext)
/-- 0 size, 1 known, 2 start, 3 end, 4 links, 5 entry: k30 k31 k74 k82 -/
def g_sure_entries (a_need_no_crossing a_need_range_of a_possible_links a_link_over : ASp) : AS :=
  (dSeq (dExpr (dCall a_need_no_crossing (dCons (dVar 0) (dCons (dVar 1) dNil))))
  (dSeq (dExpr (dCall a_need_range_of (dCons (dVar 0) (dCons (dVar 2) (dCons (dVar 3) dNil)))))
  (dSeq (dAsg 4 (dCall a_possible_links (dCons (dVar 1) (dCons (dVar 2) (dCons (dVar 3) dNil)))))
  (dRet (dLc (sRng2 (dCons (dVar 3) (dCons (dOp (aAdd false) (dVar 2) (dC (.int 1))) dNil))) (gN 5) (dB (dIsN (dCall a_link_over (dCons (dVar 4) (dCons (dVar 5) dNil))))) (dVar 5) [5])))))
/-- 0 size, 1 known, 2 start, 3 end, 4 links, 5 entry: k29 -/
def g_sure_entries_2 (a_need_no_crossing a_need_range_of a_possible_links a_link_over : ASp) : AS :=
  (dSeq (dExpr (dCall a_need_no_crossing (dCons (dVar 0) (dCons (dVar 1) dNil))))
  (dSeq (dExpr (dCall a_need_range_of (dCons (dVar 0) (dCons (dVar 2) (dCons (dVar 3) dNil)))))
  (dSeq (dAsg 4 (dCall a_possible_links (dCons (dVar 1) (dCons (dVar 2) (dCons (dVar 3) dNil)))))
  (dRet (dLcM (sRng2 (dCons (dVar 3) (dCons (dOp (aAdd false) (dVar 2) (dC (.int 1))) dNil))) (gN 5) (dB (dIsN (dCall a_link_over (dCons (dVar 4) (dCons (dVar 5) dNil))))) (dVar 5) [5])))))
/-- 0 size, 1 known, 2 start, 3 end, 4 links, 5 entry: k30 k31 k74 k82 -/
def x_sure_entries (a_possible_links a_link_over : ASp) (ax_need_no_crossing ax_need_range_of : AXp) : XS :=
  fun Xa =>
  (dSeq (dExpr (rCall ax_need_no_crossing (dCons (dVar 0) (dCons (dVar 1) dNil)) Xa))
  (dSeq (dExpr (rCall ax_need_range_of (dCons (dVar 0) (dCons (dVar 2) (dCons (dVar 3) dNil))) Xa))
  (dSeq (dAsg 4 (dCall a_possible_links (dCons (dVar 1) (dCons (dVar 2) (dCons (dVar 3) dNil)))))
  (dRet (dLc (sRng2 (dCons (dVar 3) (dCons (dOp (aAdd false) (dVar 2) (dC (.int 1))) dNil))) (gN 5) (dB (dIsN (dCall a_link_over (dCons (dVar 4) (dCons (dVar 5) dNil))))) (dVar 5) [5])))))
/-- 0 size, 1 known, 2 start, 3 end, 4 links, 5 entry: k29 -/
def x_sure_entries_2 (a_possible_links a_link_over : ASp) (ax_need_no_crossing ax_need_range_of : AXp) : XS :=
  fun Xa =>
  (dSeq (dExpr (rCall ax_need_no_crossing (dCons (dVar 0) (dCons (dVar 1) dNil)) Xa))
  (dSeq (dExpr (rCall ax_need_range_of (dCons (dVar 0) (dCons (dVar 2) (dCons (dVar 3) dNil))) Xa))
  (dSeq (dAsg 4 (dCall a_possible_links (dCons (dVar 1) (dCons (dVar 2) (dCons (dVar 3) dNil)))))
  (dRet (dLcM (sRng2 (dCons (dVar 3) (dCons (dOp (aAdd false) (dVar 2) (dC (.int 1))) dNil))) (gN 5) (dB (dIsN (dCall a_link_over (dCons (dVar 4) (dCons (dVar 5) dNil))))) (dVar 5) [5])))))
/-- 0 known, 1 start, 2 end, 3 found, 4 entry, 5 target: k29 k30 k31 k74 k82 -/
def g_possible_links (a_lowest_target : ASp) : AS :=
  (dSeq (dAsg 3 (dLc (sRng2 (dCons (dOp (aAdd false) (dVar 2) (dC (.int 1))) (dCons (dOp (aAdd false) (dVar 1) (dC (.int 1))) dNil))) (gN 4) dYes (dTup (dCons (dVar 4) (dCons (dCall a_lowest_target (dCons (dVar 0) (dCons (dVar 4) (dCons (dVar 2) dNil)))) dNil))) [4]))
  (dRet (dLc (sList (dVar 3)) (gT 2 (gN1 (gN 4) (gN1 (gN 5) gN0))) (dB (dNotN (dVar 5))) (dTup (dCons (dVar 4) (dCons (dVar 5) dNil))) [4, 5])))
def b1_link_over : AS :=
  (dIfS (dB (dChain (aB fun i j => decide (i < j)) (aB fun i j => decide (i < j)) (dVar 3) (dVar 1) (dVar 2))) (dRet (dTup (dCons (dVar 2) (dCons (dVar 3) dNil)))) dNext)
/-- 0 links, 1 entry, 2 upper, 3 target: k29 k30 k31 k74 k82 -/
def g_link_over : AS :=
  (dSeq (dFor (sList (dVar 0)) (gT 2 (gN1 (gN 2) (gN1 (gN 3) gN0)))
  (b1_link_over))
  (dRet (dC .none)))
/-- 0 size, 1 value: k32 k33 k34 k36 k37 k38 k75 k78 k81 -/
def g_is_change (a_is_integer : ASp) : AS :=
  (dSeq (dIfS (dOr (dNot (dB (dIsi "tuple" (dVar 1)))) (dOr (dB (dOp (aNe) (dCB aLen (dCons (dVar 1) dNil)) (dC (.int 2)))) (dNot (dB (dCall a_is_integer (dCons (dOp aIx (dVar 1) (dC (.int 0))) (dCons (dC (.int 1)) (dCons (dOp aSub (dVar 0) (dC (.int 1))) dNil)))))))) (dRet (dC (.bool false))) dNext)
  (dRet (dCall a_is_integer (dCons (dOp aIx (dVar 1) (dC (.int 1))) (dCons (dC (.int 0)) (dCons (dOp aSub (dOp aIx (dVar 1) (dC (.int 0))) (dC (.int 1))) dNil))))))
def b1_after_changes_3 (a_need_log a_is_change a_least_crossing : ASp) : AS :=
  (dSeq (dIfS (dNot (dB (dCall a_is_change (dCons (dCB aLen (dCons (dVar 0) dNil)) (dCons (dVar 4) dNil))))) dNever dNext)
  (dSeq (dAsgG (gT 2 (gN1 (gN 5) (gN1 (gN 6) gN0))) (dVar 4))
  (dSeq (dSetIx (dVar 6) (dVar 2) (dVar 5))
  (dIfS (dB (dNotN (dCall a_least_crossing (dCons (dVar 2) dNil)))) dNever dNext))))
/-- 0 links, 1 changes, 2 found, 3 index, 4 change, 5 entry, 6 target: k36 k37 k38 k75 -/
def g_after_changes_3 (a_need_log a_is_change a_least_crossing : ASp) : AS :=
  (dSeq (dExpr (dCall a_need_log (dCons (dVar 0) dNil)))
  (dSeq (dAsg 2 (dCB (aList true) (dCons (dVar 0) dNil)))
  (dSeq (dFor (sEnumT (dCons (dVar 1) dNil)) (gT 2 (gN1 (gN 3) (gN1 (gN 4) gN0)))
  (b1_after_changes_3 a_need_log a_is_change a_least_crossing))
  (dRet (dFrz (dVar 2))))))
def b1_after_changes_4 (a_need_log a_is_change a_least_crossing : ASp) : AS :=
  (dSeq (dIfS (dNot (dB (dCall a_is_change (dCons (dCB aLen (dCons (dVar 0) dNil)) (dCons (dVar 4) dNil))))) dNever dNext)
  (dSeq (dAsgG (gT 2 (gN1 (gN 5) (gN1 (gN 6) gN0))) (dVar 4))
  (dSeq (dSetIx (dVar 6) (dVar 2) (dVar 5))
  (dIfS (dB (dNotN (dCall a_least_crossing (dCons (dVar 2) dNil)))) dNever dNext))))
/-- 0 links, 1 changes, 2 found, 3 index, 4 change, 5 entry, 6 target: k32 -/
def g_after_changes_4 (a_need_log a_is_change a_least_crossing : ASp) : AS :=
  (dSeq (dExpr (dCall a_need_log (dCons (dVar 0) dNil)))
  (dSeq (dAsg 2 (dCB (aList true) (dCons (dVar 0) dNil)))
  (dSeq (dFor (sEnumT (dCons (dVar 1) dNil)) (gT 2 (gN1 (gN 3) (gN1 (gN 4) gN0)))
  (b1_after_changes_4 a_need_log a_is_change a_least_crossing))
  (dRet (dVar 2)))))
def b1_x_after_changes (a_is_change a_least_crossing : ASp) (ax_need_log : AXp) : XS :=
  fun Xa =>
  (dSeq (dIfS (dNot (dB (dCall a_is_change (dCons (dCB aLen (dCons (dVar 0) dNil)) (dCons (dVar 4) dNil))))) (xRaiseI "InvalidChange" (dCons (dVar 3) dNil) Xa) dNext)
  (dSeq (dAsgG (gT 2 (gN1 (gN 5) (gN1 (gN 6) gN0))) (dVar 4))
  (dSeq (dSetIx (dVar 6) (dVar 2) (dVar 5))
  (dIfS (dB (dNotN (dCall a_least_crossing (dCons (dVar 2) dNil)))) (xRaiseI "InvalidChange" (dCons (dVar 3) dNil) Xa) dNext))))
/-- 0 links, 1 changes, 2 found, 3 index, 4 change, 5 entry, 6 target: k36 k37 k38 k75 -/
def x_after_changes (a_is_change a_least_crossing : ASp) (ax_need_log : AXp) : XS :=
  fun Xa =>
  (dSeq (dExpr (rCall ax_need_log (dCons (dVar 0) dNil) Xa))
  (dSeq (dAsg 2 (dCB (aList true) (dCons (dVar 0) dNil)))
  (dSeq (dFor (sEnumT (dCons (dVar 1) dNil)) (gT 2 (gN1 (gN 3) (gN1 (gN 4) gN0)))
  (b1_x_after_changes a_is_change a_least_crossing ax_need_log Xa))
  (dRet (dFrz (dVar 2))))))
def b1_x_after_changes_2 (a_is_change a_least_crossing : ASp) (ax_need_log : AXp) : XS :=
  fun Xa =>
  (dSeq (dIfS (dNot (dB (dCall a_is_change (dCons (dCB aLen (dCons (dVar 0) dNil)) (dCons (dVar 4) dNil))))) (xRaiseI "InvalidChange" (dCons (dVar 3) dNil) Xa) dNext)
  (dSeq (dAsgG (gT 2 (gN1 (gN 5) (gN1 (gN 6) gN0))) (dVar 4))
  (dSeq (dSetIx (dVar 6) (dVar 2) (dVar 5))
  (dIfS (dB (dNotN (dCall a_least_crossing (dCons (dVar 2) dNil)))) (xRaiseI "InvalidChange" (dCons (dVar 3) dNil) Xa) dNext))))
/-- 0 links, 1 changes, 2 found, 3 index, 4 change, 5 entry, 6 target: k32 -/
def x_after_changes_2 (a_is_change a_least_crossing : ASp) (ax_need_log : AXp) : XS :=
  fun Xa =>
  (dSeq (dExpr (rCall ax_need_log (dCons (dVar 0) dNil) Xa))
  (dSeq (dAsg 2 (dCB (aList true) (dCons (dVar 0) dNil)))
  (dSeq (dFor (sEnumT (dCons (dVar 1) dNil)) (gT 2 (gN1 (gN 3) (gN1 (gN 4) gN0)))
  (b1_x_after_changes_2 a_is_change a_least_crossing ax_need_log Xa))
  (dRet (dVar 2)))))
/-- 0 script, 1 k, 2 cell: k32 k33 k34 k35 k36 k37 k38 k39 k40 k41 k42 k43 k44 k45 k46 k47 k48 k49 -/
def g_law_pot : AS :=
  (dSeq (dAsg 2 (dC (.int 0)))
  (dSeq (dIfS (dB (dOp (aB fun i j => decide (i < j)) (dVar 1) (dCB aLen (dCons (dVar 0) dNil)))) (dAsg 2 (dOp aIx (dVar 0) (dVar 1))) dNext)
  (dRet (dLstM (dCons (dCB aMax (dCons (dC (.int 0)) (dCons (dOp aSub (dVar 2) (dOp aPow (dC (.int 10)) (dC (.int 18)))) dNil))) (dCons (dOp (aAdd false) (dOp aMod (dVar 2) (dOp (aAdd false) (dOp aPow (dC (.int 10)) (dC (.int 38))) (dC (.int 133)))) (dOp (aMul false) (dC (.int 999307)) (dVar 1))) (dCons (dC (.int 0)) dNil)))))))
/-- 0 pot, 1 many, 2 found, 3 mixed: k32 k33 k34 k35 k36 k37 k38 k39 k40 k41 k42 k43 k44 k45 k46 k47 k48 k49 -/
def g_law_take : AS :=
  (dSeq (dIfS (dB (dOp (aB fun i j => decide (j < i)) (dOp aIx (dVar 0) (dC (.int 0))) (dC (.int 0)))) (dSeq (dAsg 2 (dOp aMod (dOp aIx (dVar 0) (dC (.int 0))) (dVar 1)))
  (dSeq (dSetIx (dOp aDiv (dOp aIx (dVar 0) (dC (.int 0))) (dVar 1)) (dVar 0) (dC (.int 0)))
  (dRet (dVar 2)))) dNext)
  (dSeq (dSetIx (dOp (aAdd false) (dOp aIx (dVar 0) (dC (.int 2))) (dC (.int 1))) (dVar 0) (dC (.int 2)))
  (dSeq (dAsg 3 (dOp aMod (dOp aPow (dOp (aAdd false) (dOp aIx (dVar 0) (dC (.int 1))) (dOp (aMul false) (dC (.int 8683317618811886495518194401)) (dOp aIx (dVar 0) (dC (.int 2))))) (dC (.int 3))) (dOp (aAdd false) (dOp aPow (dC (.int 10)) (dC (.int 41))) (dC (.int 37)))))
  (dSeq (dAsg 3 (dOp aMod (dOp aPow (dOp (aAdd false) (dVar 3) (dOp (aMul false) (dC (.int 295232799039604140847618609643520000001)) (dOp aIx (dVar 0) (dC (.int 2))))) (dC (.int 3))) (dOp (aAdd false) (dOp aPow (dC (.int 10)) (dC (.int 40))) (dC (.int 121)))))
  (dRet (dOp aMod (dOp aDiv (dVar 3) (dC (.int 1000003))) (dVar 1)))))))
/-- 0 bag, 1 many, 2 found, 3 mark: k57 k58 k59 k60 k61 k73 k74 k75 k76 k77 k78 -/
def g_law_take_2 : AS :=
  (dSeq (dIfS (dB (dOp (aB fun i j => decide (j < i)) (dOp aIx (dVar 0) (dC (.int 0))) (dC (.int 0)))) (dSeq (dAsg 2 (dOp aMod (dOp aIx (dVar 0) (dC (.int 0))) (dVar 1)))
  (dSeq (dSetIx (dOp aDiv (dOp aIx (dVar 0) (dC (.int 0))) (dVar 1)) (dVar 0) (dC (.int 0)))
  (dRet (dVar 2)))) dNext)
  (dSeq (dSetIx (dOp (aAdd false) (dOp aIx (dVar 0) (dC (.int 2))) (dC (.int 1))) (dVar 0) (dC (.int 2)))
  (dSeq (dAsg 3 (dOp (aAdd false) (dOp (aMul false) (dOp (aAdd false) (dOp aIx (dVar 0) (dC (.int 1))) (dC (.int 1))) (dOp (aAdd false) (dOp (aMul false) (dC (.int 30011)) (dOp aIx (dVar 0) (dC (.int 2)))) (dC (.int 7)))) (dOp (aMul false) (dOp (aMul false) (dC (.int 104729)) (dOp aIx (dVar 0) (dC (.int 2)))) (dOp aIx (dVar 0) (dC (.int 2))))))
  (dSeq (dAsg 3 (dOp aMod (dOp (aMul false) (dVar 3) (dVar 3)) (dOp (aAdd false) (dOp aPow (dC (.int 10)) (dC (.int 41))) (dC (.int 37)))))
  (dRet (dOp aMod (dOp aDiv (dOp aMod (dOp (aMul false) (dVar 3) (dOp (aAdd false) (dVar 3) (dC (.int 97)))) (dOp (aAdd false) (dOp aPow (dC (.int 10)) (dC (.int 40))) (dC (.int 4323)))) (dC (.int 100003))) (dVar 1)))))))
/-- 0 bag, 1 many, 2 found, 3 mark: k79 k80 k81 k82 k83 -/
def g_law_take_3 : AS :=
  (dSeq (dIfS (dB (dOp (aB fun i j => decide (j < i)) (dOp aIx (dVar 0) (dC (.int 0))) (dC (.int 0)))) (dSeq (dAsg 2 (dOp aMod (dCB aInt (dCons (dOp aIx (dVar 0) (dC (.int 0))) dNil)) (dVar 1)))
  (dSeq (dSetIx (dOp aDiv (dOp aIx (dVar 0) (dC (.int 0))) (dVar 1)) (dVar 0) (dC (.int 0)))
  (dRet (dVar 2)))) dNext)
  (dSeq (dSetIx (dOp (aAdd false) (dOp aIx (dVar 0) (dC (.int 2))) (dC (.int 1))) (dVar 0) (dC (.int 2)))
  (dSeq (dAsg 3 (dOp (aAdd false) (dOp (aMul false) (dOp (aAdd false) (dOp aIx (dVar 0) (dC (.int 1))) (dC (.int 1))) (dOp (aAdd false) (dOp (aMul false) (dC (.int 30011)) (dOp aIx (dVar 0) (dC (.int 2)))) (dC (.int 7)))) (dOp (aMul false) (dOp (aMul false) (dC (.int 104729)) (dOp aIx (dVar 0) (dC (.int 2)))) (dOp aIx (dVar 0) (dC (.int 2))))))
  (dSeq (dAsg 3 (dOp aMod (dCB aInt (dCons (dOp (aMul false) (dVar 3) (dVar 3)) dNil)) (dOp (aAdd false) (dOp aPow (dC (.int 10)) (dC (.int 41))) (dC (.int 37)))))
  (dSeq (dAsg 3 (dOp aMod (dCB aInt (dCons (dOp (aMul false) (dVar 3) (dOp (aAdd false) (dVar 3) (dC (.int 97)))) dNil)) (dOp (aAdd false) (dOp aPow (dC (.int 10)) (dC (.int 40))) (dC (.int 4323)))))
  (dRet (dOp aMod (dCB aInt (dCons (dOp aDiv (dVar 3) (dC (.int 100003))) dNil)) (dVar 1))))))))
/-- 0 pot, 1 things, 2 many, 3 left, 4 k: k32 k33 k34 k35 k36 k37 k38 k39 k40 k41 k42 k43 k44 k45 k46 k47 k48 k49 -/
def g_law_some (a_law_take : ASp) : AS :=
  (dSeq (dAsg 3 (dCB (aList true) (dCons (dVar 1) dNil)))
  (dRet (dLc (sRng1 (dCons (dVar 2) dNil)) (gN 4) dYes (dMeth aPopAt (dVar 3) (dCons (dCall a_law_take (dCons (dVar 0) (dCons (dCB aLen (dCons (dVar 3) dNil)) dNil))) dNil)) [4])))
def b1_law_crosses : AS :=
  (dIfS (dB (dOp (aNe) (dLc (sList (dSl false (dVar 0) (dPart (dOp (aAdd false) (dVar 1) (dC (.int 1)))) dNoPart)) (gN 2) (dB (dChain (aB fun i j => decide (i < j)) (aB fun i j => decide (i < j)) (dOp aIx (dVar 0) (dVar 1)) (dVar 2) (dVar 1))) (dVar 2) [2]) (dLst dNil))) (dRet (dC (.bool true))) dNext)
/-- 0 links, 1 entry, 2 link: k32 k33 k34 k35 k37 k39 k40 k41 k43 k45 k47 -/
def g_law_crosses : AS :=
  (dSeq (dFor (sRng1 (dCons (dCB aLen (dCons (dVar 0) dNil)) dNil)) (gN 1)
  (b1_law_crosses))
  (dRet (dC (.bool false))))
/-- 0 links, 1 other: k33 k34 k35 k36 k37 k38 k75 k78 k81 -/
def g_need_both (a_need_log : ASp) : AS :=
  (dSeq (dExpr (dCall a_need_log (dCons (dVar 0) dNil)))
  (dSeq (dExpr (dCall a_need_log (dCons (dVar 1) dNil)))
  (dIfS (dB (dOp (aNe) (dCB aLen (dCons (dVar 0) dNil)) (dCB aLen (dCons (dVar 1) dNil)))) dNever dNext)))
/-- 0 links, 1 other: k33 k34 k35 k36 k37 k38 k75 k78 k81 -/
def x_need_both (ax_need_log : AXp) : XS :=
  fun Xa =>
  (dSeq (dExpr (rCall ax_need_log (dCons (dVar 0) dNil) Xa))
  (dSeq (dExpr (rCall ax_need_log (dCons (dVar 1) dNil) Xa))
  (dIfS (dB (dOp (aNe) (dCB aLen (dCons (dVar 0) dNil)) (dCB aLen (dCons (dVar 1) dNil)))) (xRaise "Different" Xa) dNext)))
/-- 0 links, 1 other, 2 entry: k33 k34 k35 k36 k37 k38 k75 k78 k81 -/
def g_different_entries : AS :=
  (dRet (dLc (sRng1 (dCons (dCB aLen (dCons (dVar 0) dNil)) dNil)) (gN 2) (dB (dOp (aNe) (dOp aIx (dVar 0) (dVar 2)) (dOp aIx (dVar 1) (dVar 2)))) (dVar 2) [2]))
/-- 0 links, 1 other, 2 entries, 3 order, 4 entry: k34 k36 k37 k38 k75 k78 k81 -/
def g_changes_between (a_need_both a_different_entries : ASp) : AS :=
  (dSeq (dExpr (dCall a_need_both (dCons (dVar 0) (dCons (dVar 1) dNil))))
  (dSeq (dAsg 2 (dCall a_different_entries (dCons (dVar 0) (dCons (dVar 1) dNil))))
  (dSeq (dAsg 3 (dLcM (sList (dVar 2)) (gN 4) (dB (dOp (aB fun i j => decide (i < j)) (dOp aIx (dVar 0) (dVar 4)) (dOp aIx (dVar 1) (dVar 4)))) (dVar 4) [4]))
  (dSeq (dAug 3 aExt2 (dLc (sList (dRev false (dVar 2))) (gN 4) (dB (dOp (aB fun i j => decide (j < i)) (dOp aIx (dVar 0) (dVar 4)) (dOp aIx (dVar 1) (dVar 4)))) (dVar 4) [4]))
  (dRet (dLc (sList (dVar 3)) (gN 4) dYes (dTup (dCons (dVar 4) (dCons (dOp aIx (dVar 1) (dVar 4)) dNil))) [4]))))))
/-- 0 links, 1 other, 2 entries, 3 order, 4 entry: k33 -/
def g_changes_between_2 (a_need_both a_different_entries : ASp) : AS :=
  (dSeq (dExpr (dCall a_need_both (dCons (dVar 0) (dCons (dVar 1) dNil))))
  (dSeq (dAsg 2 (dCall a_different_entries (dCons (dVar 0) (dCons (dVar 1) dNil))))
  (dSeq (dAsg 3 (dLcM (sList (dVar 2)) (gN 4) (dB (dOp (aB fun i j => decide (i < j)) (dOp aIx (dVar 0) (dVar 4)) (dOp aIx (dVar 1) (dVar 4)))) (dVar 4) [4]))
  (dSeq (dAug 3 aExt2 (dLc (sList (dRev false (dVar 2))) (gN 4) (dB (dOp (aB fun i j => decide (j < i)) (dOp aIx (dVar 0) (dVar 4)) (dOp aIx (dVar 1) (dVar 4)))) (dVar 4) [4]))
  (dRet (dLcM (sList (dVar 3)) (gN 4) dYes (dTup (dCons (dVar 4) (dCons (dOp aIx (dVar 1) (dVar 4)) dNil))) [4]))))))
/-- 0 links, 1 other, 2 entries, 3 order, 4 entry: k34 k36 k37 k38 k75 k78 k81 -/
def x_changes_between (a_different_entries : ASp) (ax_need_both : AXp) : XS :=
  fun Xa =>
  (dSeq (dExpr (rCall ax_need_both (dCons (dVar 0) (dCons (dVar 1) dNil)) Xa))
  (dSeq (dAsg 2 (dCall a_different_entries (dCons (dVar 0) (dCons (dVar 1) dNil))))
  (dSeq (dAsg 3 (dLcM (sList (dVar 2)) (gN 4) (dB (dOp (aB fun i j => decide (i < j)) (dOp aIx (dVar 0) (dVar 4)) (dOp aIx (dVar 1) (dVar 4)))) (dVar 4) [4]))
  (dSeq (dAug 3 aExt2 (dLc (sList (dRev false (dVar 2))) (gN 4) (dB (dOp (aB fun i j => decide (j < i)) (dOp aIx (dVar 0) (dVar 4)) (dOp aIx (dVar 1) (dVar 4)))) (dVar 4) [4]))
  (dRet (dLc (sList (dVar 3)) (gN 4) dYes (dTup (dCons (dVar 4) (dCons (dOp aIx (dVar 1) (dVar 4)) dNil))) [4]))))))
/-- 0 links, 1 other, 2 entries, 3 order, 4 entry: k33 -/
def x_changes_between_2 (a_different_entries : ASp) (ax_need_both : AXp) : XS :=
  fun Xa =>
  (dSeq (dExpr (rCall ax_need_both (dCons (dVar 0) (dCons (dVar 1) dNil)) Xa))
  (dSeq (dAsg 2 (dCall a_different_entries (dCons (dVar 0) (dCons (dVar 1) dNil))))
  (dSeq (dAsg 3 (dLcM (sList (dVar 2)) (gN 4) (dB (dOp (aB fun i j => decide (i < j)) (dOp aIx (dVar 0) (dVar 4)) (dOp aIx (dVar 1) (dVar 4)))) (dVar 4) [4]))
  (dSeq (dAug 3 aExt2 (dLc (sList (dRev false (dVar 2))) (gN 4) (dB (dOp (aB fun i j => decide (j < i)) (dOp aIx (dVar 0) (dVar 4)) (dOp aIx (dVar 1) (dVar 4)))) (dVar 4) [4]))
  (dRet (dLcM (sList (dVar 3)) (gN 4) dYes (dTup (dCons (dVar 4) (dCons (dOp aIx (dVar 1) (dVar 4)) dNil))) [4]))))))
def b1_is_direct (a_need_both a_is_change a_different_entries a_least_crossing : ASp) : AS :=
  (dSeq (dSetIx (dVar 5) (dVar 3) (dVar 4))
  (dIfS (dOr (dB (dOp (aNe) (dVar 5) (dOp aIx (dVar 1) (dVar 4)))) (dB (dNotN (dCall a_least_crossing (dCons (dVar 3) dNil))))) (dRet (dC (.bool false))) dNext))
/-- 0 links, 1 other, 2 value, 3 found, 4 entry, 5 target, 6 change: k33 k34 k36 k37 k38 k75 k78 k81 -/
def g_is_direct (a_need_both a_is_change a_different_entries a_least_crossing : ASp) : AS :=
  (dSeq (dExpr (dCall a_need_both (dCons (dVar 0) (dCons (dVar 1) dNil))))
  (dSeq (dIfS (dOr (dNot (dB (dIsi "list" (dVar 2)))) (dNot (dB (dCB aAll (dCons (dLc (sList (dVar 2)) (gN 6) dYes (dCall a_is_change (dCons (dCB aLen (dCons (dVar 0) dNil)) (dCons (dVar 6) dNil))) [6]) dNil))))) (dRet (dC (.bool false))) dNext)
  (dSeq (dIfS (dB (dOp (aNe) (dCB (aSortedI false) (dCons (dLc (sList (dVar 2)) (gT 2 (gN1 (gN 4) (gN1 (gN 5) gN0))) dYes (dVar 4) [4, 5]) dNil)) (dCall a_different_entries (dCons (dVar 0) (dCons (dVar 1) dNil))))) (dRet (dC (.bool false))) dNext)
  (dSeq (dAsg 3 (dCB (aList true) (dCons (dVar 0) dNil)))
  (dSeq (dFor (sList (dVar 2)) (gT 2 (gN1 (gN 4) (gN1 (gN 5) gN0)))
  (b1_is_direct a_need_both a_is_change a_different_entries a_least_crossing))
  (dRet (dC (.bool true))))))))
def b1_x_is_direct (a_is_change a_different_entries a_least_crossing : ASp) (ax_need_both : AXp) : AS :=
  (dSeq (dSetIx (dVar 5) (dVar 3) (dVar 4))
  (dIfS (dOr (dB (dOp (aNe) (dVar 5) (dOp aIx (dVar 1) (dVar 4)))) (dB (dNotN (dCall a_least_crossing (dCons (dVar 3) dNil))))) (dRet (dC (.bool false))) dNext))
/-- 0 links, 1 other, 2 value, 3 found, 4 entry, 5 target, 6 change: k33 k34 k36 k37 k38 k75 k78 k81 -/
def x_is_direct (a_is_change a_different_entries a_least_crossing : ASp) (ax_need_both : AXp) : XS :=
  fun Xa =>
  (dSeq (dExpr (rCall ax_need_both (dCons (dVar 0) (dCons (dVar 1) dNil)) Xa))
  (dSeq (dIfS (dOr (dNot (dB (dIsi "list" (dVar 2)))) (dNot (dB (dCB aAll (dCons (dLc (sList (dVar 2)) (gN 6) dYes (dCall a_is_change (dCons (dCB aLen (dCons (dVar 0) dNil)) (dCons (dVar 6) dNil))) [6]) dNil))))) (dRet (dC (.bool false))) dNext)
  (dSeq (dIfS (dB (dOp (aNe) (dCB (aSortedI false) (dCons (dLc (sList (dVar 2)) (gT 2 (gN1 (gN 4) (gN1 (gN 5) gN0))) dYes (dVar 4) [4, 5]) dNil)) (dCall a_different_entries (dCons (dVar 0) (dCons (dVar 1) dNil))))) (dRet (dC (.bool false))) dNext)
  (dSeq (dAsg 3 (dCB (aList true) (dCons (dVar 0) dNil)))
  (dSeq (dFor (sList (dVar 2)) (gT 2 (gN1 (gN 4) (gN1 (gN 5) gN0)))
  (b1_x_is_direct a_is_change a_different_entries a_least_crossing ax_need_both))
  (dRet (dC (.bool true))))))))
def b1_law_near (a_law_take a_law_crosses : ASp) : AS :=
  (dSeq (dAsg 5 (dOp (aAdd false) (dC (.int 1)) (dCall a_law_take (dCons (dVar 0) (dCons (dOp aSub (dCB aLen (dCons (dVar 1) dNil)) (dC (.int 1))) dNil)))))
  (dSeq (dPar2 6 7 (dCons (dCall a_law_take (dCons (dVar 0) (dCons (dVar 5) dNil))) (dCons (dOp aIx (dVar 3) (dVar 5)) dNil)))
  (dSeq (dSetIx (dVar 6) (dVar 3) (dVar 5))
  (dIfS (dB (dCall a_law_crosses (dCons (dVar 3) dNil))) (dSetIx (dVar 7) (dVar 3) (dVar 5)) dNext))))
/-- 0 pot, 1 links, 2 many, 3 found, 4 turn, 5 entry, 6 target, 7 kept: k33 k34 k35 k37 k39 k40 k41 k43 -/
def g_law_near (a_law_take a_law_crosses : ASp) : AS :=
  (dSeq (dAsg 3 (dCB (aList true) (dCons (dVar 1) dNil)))
  (dSeq (dFor (sRng1 (dCons (dIf (dB (dOp (aB fun i j => decide (j < i)) (dCB aLen (dCons (dVar 1) dNil)) (dC (.int 2)))) (dVar 2) (dC (.int 0))) dNil)) (gN 4)
  (b1_law_near a_law_take a_law_crosses))
  (dRet (dFrz (dVar 3)))))
def b1_law_is_direct (a_law_crosses : ASp) : AS :=
  (dSeq (dIfS (dOr (dNot (dB (dIsi "tuple" (dVar 5)))) (dB (dOp (aNe) (dCB aLen (dCons (dVar 5) dNil)) (dC (.int 2))))) (dRet (dC (.bool false))) dNext)
  (dSeq (dAsgG (gT 2 (gN1 (gN 6) (gN1 (gN 7) gN0))) (dVar 5))
  (dSeq (dIfS (dB (dOp (aNe) (dLc (sTup (dVar 5)) (gN 8) (dOr (dNot (dB (dIsi "int" (dVar 8)))) (dB (dIsi "bool" (dVar 8)))) (dC (.int 1)) [8]) (dLst dNil))) (dRet (dC (.bool false))) dNext)
  (dSeq (dIfS (dOr (dNot (dB (dChain (aB fun i j => decide (i ≤ j)) (aB fun i j => decide (i < j)) (dC (.int 1)) (dVar 6) (dCB aLen (dCons (dVar 0) dNil))))) (dNot (dB (dChain (aB fun i j => decide (i ≤ j)) (aB fun i j => decide (i < j)) (dC (.int 0)) (dVar 7) (dVar 6))))) (dRet (dC (.bool false))) dNext)
  (dSeq (dIfS (dOr (dB (dOp (aEq) (dOp aIx (dVar 0) (dVar 6)) (dOp aIx (dVar 1) (dVar 6)))) (dOr (dB (dOp (aIn false) (dVar 6) (dVar 4))) (dB (dOp (aNe) (dVar 7) (dOp aIx (dVar 1) (dVar 6)))))) (dRet (dC (.bool false))) dNext)
  (dSeq (dExpr (dMeth aAppend (dVar 4) (dCons (dVar 6) dNil)))
  (dSeq (dSetIx (dVar 7) (dVar 3) (dVar 6))
  (dIfS (dB (dCall a_law_crosses (dCons (dVar 3) dNil))) (dRet (dC (.bool false))) dNext))))))))
/-- 0 links, 1 other, 2 value, 3 found, 4 seen, 5 change, 6 entry, 7 target, 8 one: k33 k34 k35 -/
def g_law_is_direct (a_law_crosses : ASp) : AS :=
  (dSeq (dIfS (dNot (dB (dIsi "list" (dVar 2)))) (dRet (dC (.bool false))) dNext)
  (dSeq (dPar2 3 4 (dCons (dCB (aList true) (dCons (dVar 0) dNil)) (dCons (dLstM dNil) dNil)))
  (dSeq (dFor (sList (dVar 2)) (gN 5)
  (b1_law_is_direct a_law_crosses))
  (dRet (dOp (aEq) (dVar 3) (dVar 1))))))
/-- 0 entry, 1 link, 2 other, 3 other_link: k35 k36 k37 k38 k75 k81 -/
def g_do_cross : AS :=
  (dSeq (dIfS (dB (dOp (aB fun i j => decide (i < j)) (dVar 0) (dVar 2))) (dRet (dChain (aB fun i j => decide (i < j)) (aB fun i j => decide (i < j)) (dVar 1) (dVar 3) (dVar 0))) dNext)
  (dRet (dChain (aB fun i j => decide (i < j)) (aB fun i j => decide (i < j)) (dVar 3) (dVar 1) (dVar 2))))
def b1_orders_between (a_need_both a_different_entries a_do_cross : ASp) : AS :=
  (dIfS (dAnd (dB (dOp (aNe) (dVar 4) (dVar 5))) (dB (dCall a_do_cross (dCons (dVar 5) (dCons (dOp aIx (dVar 1) (dVar 5)) (dCons (dVar 4) (dCons (dOp aIx (dVar 0) (dVar 4)) dNil))))))) (dExpr (dMeth aAppend (dVar 3) (dCons (dTup (dCons (dVar 4) (dCons (dVar 5) dNil))) dNil))) dNext)
def b2_orders_between (a_need_both a_different_entries a_do_cross : ASp) : AS :=
  (dFor (sList (dVar 2)) (gN 5)
  (b1_orders_between a_need_both a_different_entries a_do_cross))
/-- 0 links, 1 other, 2 entries, 3 found, 4 early, 5 late: k36 k37 k38 k75 k81 -/
def g_orders_between (a_need_both a_different_entries a_do_cross : ASp) : AS :=
  (dSeq (dExpr (dCall a_need_both (dCons (dVar 0) (dCons (dVar 1) dNil))))
  (dSeq (dAsg 2 (dCall a_different_entries (dCons (dVar 0) (dCons (dVar 1) dNil))))
  (dSeq (dAsg 3 (dLstM dNil))
  (dSeq (dFor (sList (dVar 2)) (gN 4)
  (b2_orders_between a_need_both a_different_entries a_do_cross))
  (dRet (dFrz (dVar 3)))))))
def b1_orders_between_2 (a_need_both a_different_entries a_do_cross : ASp) : AS :=
  (dIfS (dAnd (dB (dOp (aNe) (dVar 4) (dVar 5))) (dB (dCall a_do_cross (dCons (dVar 5) (dCons (dOp aIx (dVar 1) (dVar 5)) (dCons (dVar 4) (dCons (dOp aIx (dVar 0) (dVar 4)) dNil))))))) (dExpr (dMeth aAppend (dVar 3) (dCons (dTup (dCons (dVar 4) (dCons (dVar 5) dNil))) dNil))) dNext)
def b2_orders_between_2 (a_need_both a_different_entries a_do_cross : ASp) : AS :=
  (dFor (sList (dVar 2)) (gN 5)
  (b1_orders_between_2 a_need_both a_different_entries a_do_cross))
/-- 0 links, 1 other, 2 entries, 3 found, 4 early, 5 late: k35 -/
def g_orders_between_2 (a_need_both a_different_entries a_do_cross : ASp) : AS :=
  (dSeq (dExpr (dCall a_need_both (dCons (dVar 0) (dCons (dVar 1) dNil))))
  (dSeq (dAsg 2 (dCall a_different_entries (dCons (dVar 0) (dCons (dVar 1) dNil))))
  (dSeq (dAsg 3 (dLstM dNil))
  (dSeq (dFor (sList (dVar 2)) (gN 4)
  (b2_orders_between_2 a_need_both a_different_entries a_do_cross))
  (dRet (dVar 3))))))
def b1_x_orders_between (a_different_entries a_do_cross : ASp) (ax_need_both : AXp) : AS :=
  (dIfS (dAnd (dB (dOp (aNe) (dVar 4) (dVar 5))) (dB (dCall a_do_cross (dCons (dVar 5) (dCons (dOp aIx (dVar 1) (dVar 5)) (dCons (dVar 4) (dCons (dOp aIx (dVar 0) (dVar 4)) dNil))))))) (dExpr (dMeth aAppend (dVar 3) (dCons (dTup (dCons (dVar 4) (dCons (dVar 5) dNil))) dNil))) dNext)
def b2_x_orders_between (a_different_entries a_do_cross : ASp) (ax_need_both : AXp) : AS :=
  (dFor (sList (dVar 2)) (gN 5)
  (b1_x_orders_between a_different_entries a_do_cross ax_need_both))
/-- 0 links, 1 other, 2 entries, 3 found, 4 early, 5 late: k36 k37 k38 k75 k81 -/
def x_orders_between (a_different_entries a_do_cross : ASp) (ax_need_both : AXp) : XS :=
  fun Xa =>
  (dSeq (dExpr (rCall ax_need_both (dCons (dVar 0) (dCons (dVar 1) dNil)) Xa))
  (dSeq (dAsg 2 (dCall a_different_entries (dCons (dVar 0) (dCons (dVar 1) dNil))))
  (dSeq (dAsg 3 (dLstM dNil))
  (dSeq (dFor (sList (dVar 2)) (gN 4)
  (b2_x_orders_between a_different_entries a_do_cross ax_need_both))
  (dRet (dFrz (dVar 3)))))))
def b1_x_orders_between_2 (a_different_entries a_do_cross : ASp) (ax_need_both : AXp) : AS :=
  (dIfS (dAnd (dB (dOp (aNe) (dVar 4) (dVar 5))) (dB (dCall a_do_cross (dCons (dVar 5) (dCons (dOp aIx (dVar 1) (dVar 5)) (dCons (dVar 4) (dCons (dOp aIx (dVar 0) (dVar 4)) dNil))))))) (dExpr (dMeth aAppend (dVar 3) (dCons (dTup (dCons (dVar 4) (dCons (dVar 5) dNil))) dNil))) dNext)
def b2_x_orders_between_2 (a_different_entries a_do_cross : ASp) (ax_need_both : AXp) : AS :=
  (dFor (sList (dVar 2)) (gN 5)
  (b1_x_orders_between_2 a_different_entries a_do_cross ax_need_both))
/-- 0 links, 1 other, 2 entries, 3 found, 4 early, 5 late: k35 -/
def x_orders_between_2 (a_different_entries a_do_cross : ASp) (ax_need_both : AXp) : XS :=
  fun Xa =>
  (dSeq (dExpr (rCall ax_need_both (dCons (dVar 0) (dCons (dVar 1) dNil)) Xa))
  (dSeq (dAsg 2 (dCall a_different_entries (dCons (dVar 0) (dCons (dVar 1) dNil))))
  (dSeq (dAsg 3 (dLstM dNil))
  (dSeq (dFor (sList (dVar 2)) (gN 4)
  (b2_x_orders_between_2 a_different_entries a_do_cross ax_need_both))
  (dRet (dVar 3))))))
/-- 0 pot, 1 links, 2 size, 3 at, 4 found: k36 k42 k48 -/
def g_law_no_logs (a_law_take : ASp) : AS :=
  (dSeq (dPar2 2 3 (dCons (dCB aLen (dCons (dVar 1) dNil)) (dCons (dCall a_law_take (dCons (dVar 0) (dCons (dCB aLen (dCons (dVar 1) dNil)) dNil))) dNil)))
  (dSeq (dAsg 4 (dLstM (dCons (dC .none) (dCons (dC (.int 0)) (dCons (dC (.str "")) (dCons (dC (.str "0 0")) (dCons (dTup dNil) (dCons (dTup (dCons (dC (.int 0)) dNil)) (dCons (dC (.dict [])) (dCons (dLst dNil) (dCons (dLst (dCons (dC (.int 1)) dNil)) (dCons (dLst (dCons (dC .none) dNil)) (dCons (dLst (dCons (dC (.bool true)) dNil)) (dCons (dLst (dCons (dC (.bool false)) dNil)) (dCons (dLst (dCons (dC (.int 0)) (dCons (dC (.int 1)) dNil))) (dCons (dLst (dCons (dC (.int 0)) (dCons (dUn aNeg (dC (.int 1))) dNil))) (dCons (dLst (dCons (dC (.int 0)) (dCons (dC (.int 0)) (dCons (dC (.int 2)) dNil)))) (dCons (dLst (dCons (dLst (dCons (dC (.int 0)) dNil)) dNil)) dNil))))))))))))))))))
  (dSeq (dAsg 4 (dOp (aAdd true) (dVar 4) (dLst (dCons (dLst (dCons (dC (.int 0)) (dCons (dC (.int 0)) (dCons (dC (.int 0)) (dCons (dC (.int 1)) dNil))))) (dCons (dCB aTuple (dCons (dVar 1) dNil)) (dCons (dOp (aMul false) (dLst (dCons (dC (.int 0)) dNil)) (dC (.int 151))) (dCons (dLst (dCons (dC (.int 0)) (dCons (dC (.str "0")) dNil))) (dCons (dLst (dCons (dC (.int 0)) (dCons (dC .none) dNil))) (dCons (dLst (dCons (dC (.int 0)) (dCons (dTup dNil) dNil))) (dCons (dC (.dict [(.int 0, .int 0)])) (dCons (dLst (dCons (dC (.int 0)) (dCons (dLst (dCons (dC (.int 0)) dNil)) dNil))) dNil)))))))))))
  (dSeq (dExpr (dMeth aAppend (dVar 4) (dCons (dOp (aAdd false) (dOp (aAdd false) (dSl false (dVar 1) dNoPart (dPart (dVar 3))) (dLst (dCons (dVar 2) dNil))) (dSl false (dVar 1) (dPart (dOp (aAdd false) (dVar 3) (dC (.int 1)))) dNoPart)) dNil)))
  (dSeq (dExpr (dMeth aAppend (dVar 4) (dCons (dOp (aAdd false) (dOp (aAdd false) (dSl false (dVar 1) dNoPart (dPart (dVar 3))) (dLst (dCons (dUn aNeg (dC (.int 1))) dNil))) (dSl false (dVar 1) (dPart (dOp (aAdd false) (dVar 3) (dC (.int 1)))) dNoPart)) dNil)))
  (dRet (dOp (aAdd false) (dVar 4) (dLst (dCons (dOp (aAdd false) (dOp (aAdd false) (dSl false (dVar 1) dNoPart (dPart (dVar 3))) (dLst (dCons (dC .none) dNil))) (dSl false (dVar 1) (dPart (dOp (aAdd false) (dVar 3) (dC (.int 1)))) dNoPart)) (dCons (dOp (aAdd false) (dVar 1) (dLst (dCons (dC (.bool true)) dNil))) (dCons (dOp (aAdd false) (dOp (aAdd false) (dLst (dCons (dC (.int 0)) dNil)) (dOp (aMul false) (dLst (dCons (dC (.int 0)) dNil)) (dC (.int 149)))) (dLst (dCons (dC (.int 0)) dNil))) dNil)))))))))))
def b1_need_logs (a_need_log : ASp) : AS :=
  (dExpr (dCall a_need_log (dCons (dVar 1) dNil)))
/-- 0 logs, 1 links: k37 k39 k40 k41 k42 k43 k75 k78 k81 -/
def g_need_logs (a_need_log : ASp) : AS :=
  (dSeq (dIfS (dB (dOp (aEq) (dCB aLen (dCons (dVar 0) dNil)) (dC (.int 0)))) dNever dNext)
  (dSeq (dFor (sTup (dVar 0)) (gN 1)
  (b1_need_logs a_need_log))
  (dIfS (dB (dOp (aNe) (dLenSc (sTup (dVar 0)) (gN 1) dYes (dCB aLen (dCons (dVar 1) dNil)) [1]) (dC (.int 1)))) dNever dNext)))
def b1_x_need_logs (ax_need_log : AXp) : XS :=
  fun Xa =>
  (dExpr (rCall ax_need_log (dCons (dVar 1) dNil) Xa))
/-- 0 logs, 1 links: k37 k39 k40 k41 k42 k43 k75 k78 k81 -/
def x_need_logs (ax_need_log : AXp) : XS :=
  fun Xa =>
  (dSeq (dIfS (dB (dOp (aEq) (dCB aLen (dCons (dVar 0) dNil)) (dC (.int 0)))) (xRaise "InvalidLog" Xa) dNext)
  (dSeq (dFor (sTup (dVar 0)) (gN 1)
  (b1_x_need_logs ax_need_log Xa))
  (dIfS (dB (dOp (aNe) (dLenSc (sTup (dVar 0)) (gN 1) dYes (dCB aLen (dCons (dVar 1) dNil)) [1]) (dC (.int 1)))) (xRaise "Different" Xa) dNext)))
/-- 0 links, 1 other, 2 one, 3 two: k37 k39 k42 k43 k75 k78 k81 -/
def g_is_above (a_need_logs : ASp) : AS :=
  (dSeq (dExpr (dCall a_need_logs (dCons (dTup (dCons (dVar 0) (dCons (dVar 1) dNil))) dNil)))
  (dRet (dCB aAll (dCons (dLc (sZip (dCons (dVar 0) (dCons (dVar 1) dNil))) (gT 2 (gN1 (gN 2) (gN1 (gN 3) gN0))) dYes (dOp (aB fun i j => decide (j ≤ i)) (dVar 2) (dVar 3)) [2, 3]) dNil))))
/-- 0 links, 1 other, 2 one, 3 two: k37 k39 k42 k43 k75 k78 k81 -/
def x_is_above (ax_need_logs : AXp) : XS :=
  fun Xa =>
  (dSeq (dExpr (rCall ax_need_logs (dCons (dTup (dCons (dVar 0) (dCons (dVar 1) dNil))) dNil) Xa))
  (dRet (dCB aAll (dCons (dLc (sZip (dCons (dVar 0) (dCons (dVar 1) dNil))) (gT 2 (gN1 (gN 2) (gN1 (gN 3) gN0))) dYes (dOp (aB fun i j => decide (j ≤ i)) (dVar 2) (dVar 3)) [2, 3]) dNil))))
/-- 0 logs, 1 targets: k37 k40 k42 k43 k75 k78 k81 -/
def g_common_up (a_need_logs : ASp) : AS :=
  (dSeq (dExpr (dCall a_need_logs (dCons (dVar 0) dNil)))
  (dRet (dLc (sZipT (dVar 0)) (gN 1) dYes (dCB aMaxT (dCons (dVar 1) dNil)) [1])))
/-- 0 logs, 1 targets: k37 k40 k42 k43 k75 k78 k81 -/
def x_common_up (ax_need_logs : AXp) : XS :=
  fun Xa =>
  (dSeq (dExpr (rCall ax_need_logs (dCons (dVar 0) dNil) Xa))
  (dRet (dLc (sZipT (dVar 0)) (gN 1) dYes (dCB aMaxT (dCons (dVar 1) dNil)) [1])))
def b1_common_down (a_need_logs a_targets_of : ASp) : AS :=
  (dExpr (dMeth aAppend (dVar 1) (dCons (dCB aMax (dCons (dLc (sList (dCall a_targets_of (dCons (dVar 1) dNil))) (gN 3) (dB (dOp (aB fun i j => decide (i ≤ j)) (dVar 3) (dCB aMinT (dCons (dVar 2) dNil)))) (dVar 3) [3]) dNil)) dNil)))
/-- 0 logs, 1 found, 2 targets, 3 target: k37 k41 k42 k43 k75 k78 k81 -/
def g_common_down (a_need_logs a_targets_of : ASp) : AS :=
  (dSeq (dExpr (dCall a_need_logs (dCons (dVar 0) dNil)))
  (dSeq (dAsg 1 (dLstM (dCons (dC (.int 0)) dNil)))
  (dSeq (dFor (sList (dSl false (dLZ false (dVar 0)) (dPart (dC (.int 1))) dNoPart)) (gN 2)
  (b1_common_down a_need_logs a_targets_of))
  (dRet (dFrz (dVar 1))))))
def b1_x_common_down (a_targets_of : ASp) (ax_need_logs : AXp) : AS :=
  (dExpr (dMeth aAppend (dVar 1) (dCons (dCB aMax (dCons (dLc (sList (dCall a_targets_of (dCons (dVar 1) dNil))) (gN 3) (dB (dOp (aB fun i j => decide (i ≤ j)) (dVar 3) (dCB aMinT (dCons (dVar 2) dNil)))) (dVar 3) [3]) dNil)) dNil)))
/-- 0 logs, 1 found, 2 targets, 3 target: k37 k41 k42 k43 k75 k78 k81 -/
def x_common_down (a_targets_of : ASp) (ax_need_logs : AXp) : XS :=
  fun Xa =>
  (dSeq (dExpr (rCall ax_need_logs (dCons (dVar 0) dNil) Xa))
  (dSeq (dAsg 1 (dLstM (dCons (dC (.int 0)) dNil)))
  (dSeq (dFor (sList (dSl false (dLZ false (dVar 0)) (dPart (dC (.int 1))) dNoPart)) (gN 2)
  (b1_x_common_down a_targets_of ax_need_logs))
  (dRet (dFrz (dVar 1))))))
def b1_law_targets : AS :=
  (dIfS (dB (dOp (aEq) (dLc (sRng2 (dCons (dOp (aAdd false) (dVar 2) (dC (.int 1))) (dCons (dCB aLen (dCons (dVar 0) dNil)) dNil))) (gN 3) (dB (dOp (aB fun i j => decide (i < j)) (dOp aIx (dVar 0) (dVar 3)) (dVar 2))) (dVar 3) [3]) (dLst dNil))) (dExpr (dMeth aAppend (dVar 1) (dCons (dVar 2) dNil))) dNext)
/-- 0 links, 1 found, 2 target, 3 entry: k41 k44 k45 k46 k47 -/
def g_law_targets : AS :=
  (dSeq (dAsg 1 (dLstM dNil))
  (dSeq (dFor (sRng1 (dCons (dCB aLen (dCons (dVar 0) dNil)) dNil)) (gN 2)
  (b1_law_targets))
  (dRet (dFrz (dVar 1)))))
/-- 0 links, 1 newest, 2 entry: k46 k48 k49 k76 k80 -/
def g_depths_in (a_greedy_chain : ASp) : AS :=
  (dSeq (dAsg 1 (dOp aSub (dCB aLen (dCons (dVar 0) dNil)) (dC (.int 1))))
  (dRet (dLc (sRng1 (dCons (dCB aLen (dCons (dVar 0) dNil)) dNil)) (gN 2) dYes (dOp aSub (dCB aLen (dCons (dCall a_greedy_chain (dCons (dVar 0) (dCons (dVar 1) (dCons (dVar 2) dNil)))) dNil)) (dC (.int 1))) [2])))
/-- 0 links, 1 newest, 2 entry: k44 -/
def g_depths_in_2 (a_greedy_chain : ASp) : AS :=
  (dSeq (dAsg 1 (dOp aSub (dCB aLen (dCons (dVar 0) dNil)) (dC (.int 1))))
  (dRet (dLcM (sRng1 (dCons (dCB aLen (dCons (dVar 0) dNil)) dNil)) (gN 2) dYes (dOp aSub (dCB aLen (dCons (dCall a_greedy_chain (dCons (dVar 0) (dCons (dVar 1) (dCons (dVar 2) dNil)))) dNil)) (dC (.int 1))) [2])))
/-- 0 links: k44 k48 k49 k76 k80 -/
def g_depths_of (a_need_log a_depths_in : ASp) : AS :=
  (dSeq (dExpr (dCall a_need_log (dCons (dVar 0) dNil)))
  (dRet (dCall a_depths_in (dCons (dVar 0) dNil))))
/-- 0 links: k44 k48 k49 k76 k80 -/
def x_depths_of (a_depths_in : ASp) (ax_need_log : AXp) : XS :=
  fun Xa =>
  (dSeq (dExpr (rCall ax_need_log (dCons (dVar 0) dNil) Xa))
  (dRet (dCall a_depths_in (dCons (dVar 0) dNil))))
def t1_law_depth : AT :=
  (dB (dOp (aB fun i j => decide (j < i)) (dVar 2) (dVar 1)))
def b1_law_depth : AS :=
  (dSeq (dAsg 4 (dIf (dB (dOp (aB fun i j => decide (j ≤ i)) (dOp aIx (dVar 0) (dVar 2)) (dVar 1))) (dOp aIx (dVar 0) (dVar 2)) (dOp aSub (dVar 2) (dC (.int 1)))))
  (dPar2 2 3 (dCons (dVar 4) (dCons (dOp (aAdd false) (dVar 3) (dC (.int 1))) dNil))))
/-- 0 links, 1 entry, 2 here, 3 found, 4 low: k45 k46 k47 -/
def g_law_depth : AS :=
  (dSeq (dPar2 2 3 (dCons (dOp aSub (dCB aLen (dCons (dVar 0) dNil)) (dC (.int 1))) (dCons (dC (.int 0)) dNil)))
  (dSeq (dWhile (t1_law_depth) (b1_law_depth))
  (dRet (dVar 3))))
def t1_law_power : AT :=
  (dB (dOp (aEq) (dOp aMod (dVar 1) (dVar 0)) (dC (.int 0))))
def b1_law_power : AS :=
  (dSeq (dAsg 1 (dOp aDiv (dVar 1) (dVar 0)))
  (dAsg 2 (dOp (aMul false) (dVar 2) (dVar 0))))
/-- 0 base, 1 entry, 2 found: k51 k52 k54 -/
def g_law_power : AS :=
  (dSeq (dAsg 2 (dC (.int 1)))
  (dSeq (dWhile (t1_law_power) (b1_law_power))
  (dRet (dVar 2))))
/-- 0 prices, 1 price: k46 k47 k48 k49 k76 k80 -/
def g_need_prices (a_is_integer : ASp) : AS :=
  (dSeq (dIfS (dOr (dNot (dB (dIsi "list" (dVar 0)))) (dNot (dB (dChain (aB fun i j => decide (i ≤ j)) (aB fun i j => decide (i ≤ j)) (dC (.int 1)) (dCB aLen (dCons (dVar 0) dNil)) (dC (.int 60)))))) dNever dNext)
  (dIfS (dNot (dB (dCB aAll (dCons (dLc (sList (dVar 0)) (gN 1) dYes (dCall a_is_integer (dCons (dVar 1) (dCons (dC (.int 0)) (dCons (dC (.int 1000000000000000000000000000000)) dNil)))) [1]) dNil)))) dNever dNext))
/-- 0 prices, 1 price: k46 k47 k48 k49 k76 k80 -/
def x_need_prices (a_is_integer : ASp) : XS :=
  fun Xa =>
  (dSeq (dIfS (dOr (dNot (dB (dIsi "list" (dVar 0)))) (dNot (dB (dChain (aB fun i j => decide (i ≤ j)) (aB fun i j => decide (i ≤ j)) (dC (.int 1)) (dCB aLen (dCons (dVar 0) dNil)) (dC (.int 60)))))) (xRaise "InvalidPrices" Xa) dNext)
  (dIfS (dNot (dB (dCB aAll (dCons (dLc (sList (dVar 0)) (gN 1) dYes (dCall a_is_integer (dCons (dVar 1) (dCons (dC (.int 0)) (dCons (dC (.int 1000000000000000000000000000000)) dNil)))) [1]) dNil)))) (xRaise "InvalidPrices" Xa) dNext))
/-- 0 links, 1 prices, 2 price, 3 depth: k46 k48 k49 k76 k80 -/
def g_cost_of (a_need_log a_need_prices a_depths_in : ASp) : AS :=
  (dSeq (dExpr (dCall a_need_log (dCons (dVar 0) dNil)))
  (dSeq (dExpr (dCall a_need_prices (dCons (dVar 1) dNil)))
  (dSeq (dIfS (dB (dOp (aNe) (dCB aLen (dCons (dVar 0) dNil)) (dCB aLen (dCons (dVar 1) dNil)))) dNever dNext)
  (dRet (dCB aSum (dCons (dLc (sZip (dCons (dVar 1) (dCons (dCall a_depths_in (dCons (dVar 0) dNil)) dNil))) (gT 2 (gN1 (gN 2) (gN1 (gN 3) gN0))) dYes (dOp (aMul false) (dVar 2) (dVar 3)) [2, 3]) dNil))))))
/-- 0 links, 1 prices, 2 price, 3 depth: k46 k48 k49 k76 k80 -/
def x_cost_of (a_depths_in : ASp) (ax_need_log ax_need_prices : AXp) : XS :=
  fun Xa =>
  (dSeq (dExpr (rCall ax_need_log (dCons (dVar 0) dNil) Xa))
  (dSeq (dExpr (rCall ax_need_prices (dCons (dVar 1) dNil) Xa))
  (dSeq (dIfS (dB (dOp (aNe) (dCB aLen (dCons (dVar 0) dNil)) (dCB aLen (dCons (dVar 1) dNil)))) (xRaise "Different" Xa) dNext)
  (dRet (dCB aSum (dCons (dLc (sZip (dCons (dVar 1) (dCons (dCall a_depths_in (dCons (dVar 0) dNil)) dNil))) (gT 2 (gN1 (gN 2) (gN1 (gN 3) gN0))) dYes (dOp (aMul false) (dVar 2) (dVar 3)) [2, 3]) dNil))))))
def t1_law_prices (a_law_take : ASp) : AT :=
  (dB (dOp (aB fun i j => decide (i < j)) (dCB aLen (dCons (dVar 3) dNil)) (dVar 1)))
def b1_law_prices (a_law_take : ASp) : AS :=
  (dExpr (dMeth aAppend (dVar 3) (dCons (dCB aMin (dCons (dOp (aMul false) (dC (.int 3)) (dOp aIx (dVar 3) (dUn aNeg (dC (.int 1))))) (dCons (dOp aPow (dC (.int 10)) (dC (.int 30))) dNil))) dNil)))
/-- 0 pot, 1 many, 2 style, 3 found, 4 turn: k47 k48 k49 -/
def g_law_prices (a_law_take : ASp) : AS :=
  (dSeq (dAsg 2 (dCall a_law_take (dCons (dVar 0) (dCons (dC (.int 6)) dNil))))
  (dSeq (dIfS (dB (dOp (aEq) (dVar 2) (dC (.int 1)))) (dRet (dOp (aMul false) (dLst (dCons (dC (.int 1)) dNil)) (dVar 1))) dNext)
  (dSeq (dIfS (dB (dOp (aEq) (dVar 2) (dC (.int 2)))) (dRet (dLc (sRng1 (dCons (dVar 1) dNil)) (gN 4) dYes (dOp aIx (dLst (dCons (dC (.int 0)) (dCons (dC (.int 0)) (dCons (dC (.int 1)) (dCons (dOp aPow (dC (.int 10)) (dC (.int 30))) dNil))))) (dCall a_law_take (dCons (dVar 0) (dCons (dC (.int 4)) dNil)))) [4])) dNext)
  (dSeq (dIfS (dB (dOp (aEq) (dVar 2) (dC (.int 3)))) (dSeq (dAsg 3 (dLstM (dCons (dC (.int 1)) dNil)))
  (dSeq (dWhile (t1_law_prices a_law_take) (b1_law_prices a_law_take))
  (dRet (dStep false (dVar 3) (dOp aIx (dLst (dCons (dC (.int 1)) (dCons (dUn aNeg (dC (.int 1))) dNil))) (dCall a_law_take (dCons (dVar 0) (dCons (dC (.int 2)) dNil)))))))) dNext)
  (dRet (dLc (sRng1 (dCons (dVar 1) dNil)) (gN 4) dYes (dCall a_law_take (dCons (dVar 0) (dCons (dOp aIx (dLst (dCons (dC (.int 10)) (dCons (dC (.int 100)) (dCons (dC (.int 10)) (dCons (dC (.int 10)) (dCons (dOp (aAdd false) (dOp aPow (dC (.int 10)) (dC (.int 30))) (dC (.int 1))) (dCons (dC (.int 4)) dNil))))))) (dVar 2)) dNil))) [4]))))))
/-- 0 prices: k47 k48 k49 k76 -/
def g_cheapest_cost (a_need_prices a_cost_table : ASp) : AS :=
  (dSeq (dExpr (dCall a_need_prices (dCons (dVar 0) dNil)))
  (dRet (dOp aIx (dGet (dCall a_cost_table (dCons (dVar 0) dNil)) (dTup (dCons (dC (.int 0)) (dCons (dOp aSub (dCB aLen (dCons (dVar 0) dNil)) (dC (.int 1))) dNil)))) (dC (.int 0)))))
/-- 0 prices: k47 k48 k49 k76 -/
def x_cheapest_cost (a_cost_table : ASp) (ax_need_prices : AXp) : XS :=
  fun Xa =>
  (dSeq (dExpr (rCall ax_need_prices (dCons (dVar 0) dNil) Xa))
  (dRet (dOp aIx (dGet (dCall a_cost_table (dCons (dVar 0) dNil)) (dTup (dCons (dC (.int 0)) (dCons (dOp aSub (dCB aLen (dCons (dVar 0) dNil)) (dC (.int 1))) dNil)))) (dC (.int 0)))))
/-- 0 value: k51 k52 k53 k54 k55 k56 k77 k83 -/
def g_need_base (a_is_integer : ASp) : AS :=
  (dIfS (dNot (dB (dCall a_is_integer (dCons (dVar 0) (dCons (dC (.int 2)) (dCons (dC (.int 36)) dNil)))))) dNever dNext)
/-- 0 value: k51 k52 k53 k54 k55 k56 k77 k83 -/
def x_need_base (a_is_integer : ASp) : XS :=
  fun Xa =>
  (dIfS (dNot (dB (dCall a_is_integer (dCons (dVar 0) (dCons (dC (.int 2)) (dCons (dC (.int 36)) dNil)))))) (xRaise "InvalidBase" Xa) dNext)
def t1_link_of : AT :=
  (dB (dOp (aEq) (dOp aMod (dVar 1) (dOp (aMul false) (dVar 2) (dVar 0))) (dC (.int 0))))
def b1_link_of : AS :=
  (dAug 2 (aIc CMul fun i j => i * j) (dVar 0))
/-- 0 base, 1 entry, 2 power: k51 k52 k53 k54 k55 k56 k77 k83 -/
def g_link_of : AS :=
  (dSeq (dAsg 2 (dC (.int 1)))
  (dSeq (dWhile (t1_link_of) (b1_link_of))
  (dRet (dOp aSub (dVar 1) (dVar 2)))))
/-- 0 base, 1 entry: k51 k55 k56 k77 -/
def g_ruler_link (a_need_base a_is_integer a_link_of : ASp) : AS :=
  (dSeq (dExpr (dCall a_need_base (dCons (dVar 0) dNil)))
  (dSeq (dIfS (dNot (dB (dCall a_is_integer (dCons (dVar 1) (dCons (dC (.int 1)) (dCons (dC (.int 1000000000000000000000000000000)) dNil)))))) dNever dNext)
  (dRet (dCall a_link_of (dCons (dVar 0) (dCons (dVar 1) dNil))))))
/-- 0 base, 1 entry: k51 k55 k56 k77 -/
def x_ruler_link (a_is_integer a_link_of : ASp) (ax_need_base : AXp) : XS :=
  fun Xa =>
  (dSeq (dExpr (rCall ax_need_base (dCons (dVar 0) dNil) Xa))
  (dSeq (dIfS (dNot (dB (dCall a_is_integer (dCons (dVar 1) (dCons (dC (.int 1)) (dCons (dC (.int 1000000000000000000000000000000)) dNil)))))) (xRaise "InvalidEntry" Xa) dNext)
  (dRet (dCall a_link_of (dCons (dVar 0) (dCons (dVar 1) dNil))))))
def t1_law_walk (a_law_power : ASp) : AT :=
  (dB (dOp (aB fun i j => decide (j < i)) (dOp aIx (dVar 3) (dUn aNeg (dC (.int 1)))) (dVar 2)))
def b1_law_walk (a_law_power : ASp) : AS :=
  (dSeq (dAsg 4 (dOp aSub (dOp aIx (dVar 3) (dUn aNeg (dC (.int 1)))) (dCall a_law_power (dCons (dVar 0) (dCons (dOp aIx (dVar 3) (dUn aNeg (dC (.int 1)))) dNil)))))
  (dExpr (dMeth aAppend (dVar 3) (dCons (dIf (dB (dOp (aB fun i j => decide (j ≤ i)) (dVar 4) (dVar 2))) (dVar 4) (dOp aSub (dOp aIx (dVar 3) (dUn aNeg (dC (.int 1)))) (dC (.int 1)))) dNil))))
/-- 0 base, 1 start, 2 end, 3 found, 4 goal: k51 k52 k54 -/
def g_law_walk (a_law_power : ASp) : AS :=
  (dSeq (dAsg 3 (dLstM (dCons (dVar 1) dNil)))
  (dSeq (dWhile (t1_law_walk a_law_power) (b1_law_walk a_law_power))
  (dRet (dFrz (dVar 3)))))
/-- 0 reel: k51 k52 k53 k54 k55 k56 -/
def g_law_base (a_law_turn : ASp) : AS :=
  (dRet (dOp aIx (dLst (dCons (dC (.int 2)) (dCons (dC (.int 10)) (dCons (dC (.int 36)) (dCons (dC (.int 3)) (dCons (dOp (aAdd false) (dC (.int 2)) (dCall a_law_turn (dCons (dVar 0) (dCons (dC (.int 35)) dNil)))) dNil)))))) (dCall a_law_turn (dCons (dVar 0) (dCons (dC (.int 5)) dNil)))))
def b1_law_place (a_law_turn : ASp) : AS :=
  (dSeq (dAsg 4 (dOp (aMul false) (dVar 2) (dVar 1)))
  (dAsg 2 (dIf (dB (dOp (aB fun i j => decide (i ≤ j)) (dVar 4) (dOp aPow (dC (.int 10)) (dC (.int 30))))) (dVar 4) (dVar 2))))
/-- 0 reel, 1 base, 2 power, 3 turn, 4 more, 5 small, 6 many, 7 near, 8 some: k51 k52 k53 k55 k56 -/
def g_law_place (a_law_turn : ASp) : AS :=
  (dSeq (dAsg 2 (dC (.int 1)))
  (dSeq (dFor (sRng1 (dCons (dCall a_law_turn (dCons (dVar 0) (dCons (dC (.int 60)) dNil))) dNil)) (gN 3)
  (b1_law_place a_law_turn))
  (dSeq (dPar2 5 6 (dCons (dCall a_law_turn (dCons (dVar 0) (dCons (dC (.int 200)) dNil))) (dCons (dCall a_law_turn (dCons (dVar 0) (dCons (dOp (aAdd false) (dOp aPow (dC (.int 10)) (dC (.int 30))) (dC (.int 1))) dNil))) dNil)))
  (dSeq (dAsg 7 (dCB aMax (dCons (dC (.int 0)) (dCons (dCB aMin (dCons (dOp aPow (dC (.int 10)) (dC (.int 30))) (dCons (dOp aSub (dOp (aAdd false) (dVar 2) (dCall a_law_turn (dCons (dVar 0) (dCons (dC (.int 5)) dNil)))) (dC (.int 2))) dNil))) dNil))))
  (dSeq (dAsg 8 (dLst (dCons (dVar 5) (dCons (dVar 6) (dCons (dVar 7) (dCons (dOp (aMul false) (dOp aDiv (dVar 6) (dVar 2)) (dVar 2)) (dCons (dOp aSub (dOp aPow (dC (.int 10)) (dC (.int 30))) (dVar 5)) (dCons (dOp aDiv (dVar 6) (dVar 2)) dNil))))))))
  (dRet (dOp aIx (dVar 8) (dCall a_law_turn (dCons (dVar 0) (dCons (dC (.int 6)) dNil))))))))))
/-- 0 start, 1 end: k52 k53 k54 k55 k56 k77 k83 -/
def g_need_ends (a_is_integer : ASp) : AS :=
  (dSeq (dIfS (dNot (dB (dCall a_is_integer (dCons (dVar 0) (dCons (dC (.int 0)) (dCons (dC (.int 1000000000000000000000000000000)) dNil)))))) dNever dNext)
  (dIfS (dNot (dB (dCall a_is_integer (dCons (dVar 1) (dCons (dC (.int 0)) (dCons (dVar 0) dNil)))))) dNever dNext))
/-- 0 start, 1 end: k52 k53 k54 k55 k56 k77 k83 -/
def x_need_ends (a_is_integer : ASp) : XS :=
  fun Xa =>
  (dSeq (dIfS (dNot (dB (dCall a_is_integer (dCons (dVar 0) (dCons (dC (.int 0)) (dCons (dC (.int 1000000000000000000000000000000)) dNil)))))) (xRaise "InvalidEntry" Xa) dNext)
  (dIfS (dNot (dB (dCall a_is_integer (dCons (dVar 1) (dCons (dC (.int 0)) (dCons (dVar 0) dNil)))))) (xRaise "InvalidEntry" Xa) dNext))
/-- 0 base, 1 start, 2 end: k52 k53 k55 k56 k77 k83 -/
def g_ruler_length (a_need_base a_need_ends a_walked : ASp) : AS :=
  (dSeq (dExpr (dCall a_need_base (dCons (dVar 0) dNil)))
  (dSeq (dExpr (dCall a_need_ends (dCons (dVar 1) (dCons (dVar 2) dNil))))
  (dRet (dOp aSub (dCB aLen (dCons (dCB (aList false) (dCons (dCall a_walked (dCons (dVar 0) (dCons (dVar 1) (dCons (dVar 2) dNil)))) dNil)) dNil)) (dC (.int 1))))))
/-- 0 base, 1 start, 2 end: k52 k53 k55 k56 k77 k83 -/
def x_ruler_length (a_walked : ASp) (ax_need_base ax_need_ends : AXp) : XS :=
  fun Xa =>
  (dSeq (dExpr (rCall ax_need_base (dCons (dVar 0) dNil) Xa))
  (dSeq (dExpr (rCall ax_need_ends (dCons (dVar 1) (dCons (dVar 2) dNil)) Xa))
  (dRet (dOp aSub (dCB aLen (dCons (dCB (aList false) (dCons (dCall a_walked (dCons (dVar 0) (dCons (dVar 1) (dCons (dVar 2) dNil)))) dNil)) dNil)) (dC (.int 1))))))
/-- 0 value, 1 least, 2 most: k57 k58 k59 k60 k61 k69 k70 k71 k72 k79 -/
def g_is_whole : AS :=
  (dRet (dAndV (dIsi "int" (dVar 0)) (dAndV (dNotV (dIsi "bool" (dVar 0))) (dChain (aB fun i j => decide (i ≤ j)) (aB fun i j => decide (i ≤ j)) (dVar 1) (dVar 0) (dVar 2)))))
/-- 0 tag, 1 letter: k57 k58 k59 k60 k61 k69 k70 k71 k72 k79 -/
def g_need_tag : AS :=
  (dSeq (dIfS (dOr (dNot (dB (dIsi "str" (dVar 0)))) (dNot (dB (dChain (aB fun i j => decide (i ≤ j)) (aB fun i j => decide (i ≤ j)) (dC (.int 1)) (dCB aLen (dCons (dVar 0) dNil)) (dC (.int 8)))))) dNever dNext)
  (dIfS (dNot (dB (dCB aAll (dCons (dLc (sList (dVar 0)) (gN 1) dYes (dOp (aIn false) (dVar 1) (dC (.str "abcdefghijklmnopqrstuvwxyz"))) [1]) dNil)))) dNever dNext))
/-- 0 tag, 1 letter: k57 k58 k59 k60 k61 k69 k70 k71 k72 k79 -/
def x_need_tag : XS :=
  fun Xa =>
  (dSeq (dIfS (dOr (dNot (dB (dIsi "str" (dVar 0)))) (dNot (dB (dChain (aB fun i j => decide (i ≤ j)) (aB fun i j => decide (i ≤ j)) (dC (.int 1)) (dCB aLen (dCons (dVar 0) dNil)) (dC (.int 8)))))) (xRaise "InvalidTag" Xa) dNext)
  (dIfS (dNot (dB (dCB aAll (dCons (dLc (sList (dVar 0)) (gN 1) dYes (dOp (aIn false) (dVar 1) (dC (.str "abcdefghijklmnopqrstuvwxyz"))) [1]) dNil)))) (xRaise "InvalidTag" Xa) dNext))
def b1_need_target (a_is_whole : ASp) : AS :=
  (dIfS (dB (dOp (aB fun i j => decide (i < j)) (dOp aIx (dVar 0) (dVar 4)) (dVar 1))) dNever dNext)
/-- 0 links, 1 target, 2 most, 3 entry, 4 other: k57 k58 k59 k60 k61 k69 k70 k71 k72 k79 -/
def g_need_target (a_is_whole : ASp) : AS :=
  (dSeq (dAsg 3 (dCB aLen (dCons (dVar 0) dNil)))
  (dSeq (dIfS (dB (dOp (aB fun i j => decide (j ≤ i)) (dVar 3) (dVar 2))) dNever dNext)
  (dSeq (dIfS (dNot (dB (dCall a_is_whole (dCons (dVar 1) (dCons (dC (.int 0)) (dCons (dOp aSub (dVar 3) (dC (.int 1))) dNil)))))) dNever dNext)
  (dFor (sRng2 (dCons (dOp (aAdd false) (dVar 1) (dC (.int 1))) (dCons (dVar 3) dNil))) (gN 4)
  (b1_need_target a_is_whole)))))
/-- 0 script, 1 k, 2 cell: k60 k61 k73 k74 k75 k76 k77 -/
def g_law_bag : AS :=
  (dSeq (dAsg 2 (dC (.int 0)))
  (dSeq (dIfS (dB (dOp (aB fun i j => decide (i < j)) (dVar 1) (dCB aLen (dCons (dVar 0) dNil)))) (dAsg 2 (dOp aIx (dVar 0) (dVar 1))) dNext)
  (dRet (dLst (dCons (dCB aMax (dCons (dC (.int 0)) (dCons (dOp aSub (dVar 2) (dOp aPow (dC (.int 10)) (dC (.int 18)))) dNil))) (dCons (dOp aMod (dVar 2) (dOp (aAdd false) (dOp aPow (dC (.int 10)) (dC (.int 40))) (dC (.int 121)))) (dCons (dOp (aMul false) (dC (.int 61)) (dVar 1)) dNil)))))))
/-- 0 script, 1 k, 2 cell: k57 k58 k59 k78 -/
def g_law_bag_2 : AS :=
  (dSeq (dAsg 2 (dC (.int 0)))
  (dSeq (dIfS (dB (dOp (aB fun i j => decide (i < j)) (dVar 1) (dCB aLen (dCons (dVar 0) dNil)))) (dAsg 2 (dOp aIx (dVar 0) (dVar 1))) dNext)
  (dRet (dLstM (dCons (dCB aMax (dCons (dC (.int 0)) (dCons (dOp aSub (dVar 2) (dOp aPow (dC (.int 10)) (dC (.int 18)))) dNil))) (dCons (dOp aMod (dVar 2) (dOp (aAdd false) (dOp aPow (dC (.int 10)) (dC (.int 40))) (dC (.int 121)))) (dCons (dOp (aMul false) (dC (.int 61)) (dVar 1)) dNil)))))))
/-- 0 script, 1 k, 2 cell: k79 k80 k81 k82 -/
def g_law_bag_3 : AS :=
  (dSeq (dAsg 2 (dC (.int 0)))
  (dSeq (dIfS (dB (dOp (aB fun i j => decide (i < j)) (dVar 1) (dCB aLen (dCons (dVar 0) dNil)))) (dAsg 2 (dOp aIx (dVar 0) (dVar 1))) dNext)
  (dRet (dLstM (dCons (dCB aMax (dCons (dC (.int 0)) (dCons (dOp aSub (dVar 2) (dOp aPow (dC (.int 10)) (dC (.int 18)))) dNil))) (dCons (dOp aMod (dCB aInt (dCons (dVar 2) dNil)) (dOp (aAdd false) (dOp aPow (dC (.int 10)) (dC (.int 40))) (dC (.int 121)))) (dCons (dOp (aMul false) (dC (.int 61)) (dVar 1)) dNil)))))))
/-- 0 bag, 1 values: k57 k58 k59 k60 k61 k73 k74 k75 k76 k77 -/
def g_law_pick (a_law_take : ASp) : AS :=
  (dRet (dOp aIx (dVar 1) (dCall a_law_take (dCons (dVar 0) (dCons (dCB aLen (dCons (dVar 1) dNil)) dNil)))))
def b1_law_allowed : AS :=
  (dIfS (dB (dOp (aEq) (dLc (sRng2 (dCons (dOp (aAdd false) (dVar 2) (dC (.int 1))) (dCons (dCB aLen (dCons (dVar 0) dNil)) dNil))) (gN 3) (dB (dOp (aB fun i j => decide (i < j)) (dOp aIx (dVar 0) (dVar 3)) (dVar 2))) (dVar 3) [3]) (dLst dNil))) (dExpr (dMeth aAppend (dVar 1) (dCons (dVar 2) dNil))) dNext)
/-- 0 links, 1 found, 2 target, 3 entry: k57 k58 k59 k60 k61 k73 k74 k75 k76 k77 -/
def g_law_allowed : AS :=
  (dSeq (dAsg 1 (dLstM dNil))
  (dSeq (dFor (sRng1 (dCons (dCB aLen (dCons (dVar 0) dNil)) dNil)) (gN 2)
  (b1_law_allowed))
  (dRet (dFrz (dVar 1)))))
def b1_law_allowed_2 : AS :=
  (dAsg 1 (dOp (aAdd false) (dLc (sList (dVar 1)) (gN 3) (dB (dOp (aB fun i j => decide (i ≤ j)) (dVar 3) (dOp aIx (dVar 0) (dVar 2)))) (dVar 3) [3]) (dLst (dCons (dVar 2) dNil))))
/-- 0 links, 1 found, 2 entry, 3 target: k79 k80 k81 k82 -/
def g_law_allowed_2 : AS :=
  (dSeq (dAsg 1 (dLst (dCons (dC (.int 0)) dNil)))
  (dSeq (dFor (sRng2 (dCons (dC (.int 1)) (dCons (dCB aLen (dCons (dVar 0) dNil)) dNil))) (gN 2)
  (b1_law_allowed_2))
  (dRet (dVar 1))))
def t1_law_shortest : AT :=
  (dB (dOp (aNe) (dOp aIx (dVar 3) (dUn aNeg (dC (.int 1)))) (dVar 2)))
def b1_law_shortest : AS :=
  (dSeq (dAsg 4 (dOp aIx (dVar 0) (dOp aIx (dVar 3) (dUn aNeg (dC (.int 1))))))
  (dExpr (dMeth aAppend (dVar 3) (dCons (dIf (dB (dOp (aB fun i j => decide (j ≤ i)) (dVar 4) (dVar 2))) (dVar 4) (dOp aSub (dOp aIx (dVar 3) (dUn aNeg (dC (.int 1)))) (dC (.int 1)))) dNil))))
/-- 0 links, 1 start, 2 end, 3 found, 4 link: k57 k58 k59 k60 k61 k73 k74 k75 k76 k77 k78 -/
def g_law_shortest : AS :=
  (dSeq (dAsg 3 (dLstM (dCons (dVar 1) dNil)))
  (dSeq (dWhile (t1_law_shortest) (b1_law_shortest))
  (dRet (dFrz (dVar 3)))))
def b1_law_first_crossing : AS :=
  (dIfS (dB (dOp (aB fun i j => decide (i < j)) (dOp aIx (dVar 0) (dVar 2)) (dVar 1))) (dRet (dTup (dCons (dVar 2) (dCons (dCB aLen (dCons (dVar 0) dNil)) dNil)))) dNext)
/-- 0 links, 1 target, 2 entry: k57 k58 k59 k60 k61 k73 k74 k75 k76 k77 -/
def g_law_first_crossing : AS :=
  (dSeq (dFor (sRng2 (dCons (dOp (aAdd false) (dVar 1) (dC (.int 1))) (dCons (dCB aLen (dCons (dVar 0) dNil)) dNil))) (gN 2)
  (b1_law_first_crossing))
  (dRet (dC .none)))
/-- 0 word, 1 most, 2 sign: k58 k60 k66 k67 k68 k69 k70 k71 k72 k79 -/
def g_number_in : AS :=
  (dSeq (dIfS (dOr (dNot (dB (dChain (aB fun i j => decide (i ≤ j)) (aB fun i j => decide (i ≤ j)) (dC (.int 1)) (dCB aLen (dCons (dVar 0) dNil)) (dVar 1)))) (dNot (dB (dCB aAll (dCons (dLc (sList (dVar 0)) (gN 2) dYes (dOp (aIn false) (dVar 2) (dC (.str "0123456789"))) [2]) dNil))))) (dRet (dC .none)) dNext)
  (dRet (dIf (dAnd (dB (dOp (aEq) (dOp aIx (dVar 0) (dC (.int 0))) (dC (.str "0")))) (dB (dOp (aB fun i j => decide (j < i)) (dCB aLen (dCons (dVar 0) dNil)) (dC (.int 1))))) (dC .none) (dCB aInt (dCons (dVar 0) dNil)))))
/-- 0 words, 1 found, 2 word: k58 k60 k66 k67 k68 k69 k70 k71 k72 k79 -/
def g_numbers_in (a_number_in : ASp) : AS :=
  (dSeq (dAsg 1 (dLc (sList (dVar 0)) (gN 2) dYes (dCall a_number_in (dCons (dVar 2) (dCons (dC (.int 3)) dNil))) [2]))
  (dRet (dIf (dB (dOp (aIn false) (dC .none) (dVar 1))) (dC .none) (dVar 1))))
/-- 0 links: k66 k67 k68 k72 -/
def g_show_log (a_need_log a_log_text : ASp) : AS :=
  (dSeq (dExpr (dCall a_need_log (dCons (dVar 0) dNil)))
  (dRet (dCall a_log_text (dCons (dVar 0) dNil))))
/-- 0 links: k66 k67 k68 k72 -/
def x_show_log (a_log_text : ASp) (ax_need_log : AXp) : XS :=
  fun Xa =>
  (dSeq (dExpr (rCall ax_need_log (dCons (dVar 0) dNil) Xa))
  (dRet (dCall a_log_text (dCons (dVar 0) dNil))))
/-- 0 links, 1 chain: k66 k68 k79 -/
def g_show_chain (a_need_log a_need_chain a_chain_text : ASp) : AS :=
  (dSeq (dExpr (dCall a_need_log (dCons (dVar 0) dNil)))
  (dSeq (dExpr (dCall a_need_chain (dCons (dVar 0) (dCons (dVar 1) dNil))))
  (dRet (dCall a_chain_text (dCons (dVar 1) dNil)))))
/-- 0 links, 1 chain: k66 k68 k79 -/
def x_show_chain (a_chain_text : ASp) (ax_need_log ax_need_chain : AXp) : XS :=
  fun Xa =>
  (dSeq (dExpr (rCall ax_need_log (dCons (dVar 0) dNil) Xa))
  (dSeq (dExpr (rCall ax_need_chain (dCons (dVar 0) (dCons (dVar 1) dNil)) Xa))
  (dRet (dCall a_chain_text (dCons (dVar 1) dNil)))))
def b1_law_is_chain (a_law_whole : ASp) : AS :=
  (dIfS (dOr (dB (dOp (aEq) (dVar 2) (dC (.int 0)))) (dB (dOp (aIn true) (dVar 3) (dTup (dCons (dOp aSub (dVar 2) (dC (.int 1))) (dCons (dOp aIx (dVar 0) (dVar 2)) dNil)))))) (dRet (dC (.bool false))) dNext)
/-- 0 links, 1 value, 2 one, 3 other, 4 entry: k66 k68 -/
def g_law_is_chain (a_law_whole : ASp) : AS :=
  (dSeq (dIfS (dOr (dNot (dB (dIsi "list" (dVar 1)))) (dB (dOp (aEq) (dVar 1) (dLst dNil)))) (dRet (dC (.bool false))) dNext)
  (dSeq (dIfS (dB (dOp (aNe) (dLc (sList (dVar 1)) (gN 4) (dNot (dB (dCall a_law_whole (dCons (dVar 4) (dCons (dC (.int 0)) (dCons (dOp aSub (dCB aLen (dCons (dVar 0) dNil)) (dC (.int 1))) dNil)))))) (dVar 4) [4]) (dLst dNil))) (dRet (dC (.bool false))) dNext)
  (dSeq (dFor (sZip (dCons (dVar 1) (dCons (dSl false (dVar 1) (dPart (dC (.int 1))) dNoPart) dNil))) (gT 2 (gN1 (gN 2) (gN1 (gN 3) gN0)))
  (b1_law_is_chain a_law_whole))
  (dRet (dC (.bool true))))))
/-- 0 lower, 1 upper, 2 joint, 3 link: k80 k81 -/
def g_law_stacked : AS :=
  (dSeq (dAsg 2 (dOp aSub (dCB aLen (dCons (dVar 0) dNil)) (dC (.int 1))))
  (dRet (dOp (aAdd false) (dVar 0) (dLc (sList (dSl false (dVar 1) (dPart (dC (.int 1))) dNoPart)) (gN 3) dYes (dOp (aAdd false) (dVar 3) (dVar 2)) [3]))))
/-- 0 entries, 1 joint, 2 entry: k80 k81 -/
def g_law_shifted : AS :=
  (dRet (dLc (sList (dVar 0)) (gN 2) dYes (dOp (aAdd false) (dVar 2) (dVar 1)) [2]))
end Z.P
/-! Z7: words for the readings' proofs. -/
namespace Z
open PySem PySem.Spec PyProof.Rows L2
theorem asD_v (m : Sto) (d : PyData) : asD m (.v d) = some d := rfl
theorem asL_v (m : Sto) (l : List PyData) : asL m (.v (.list l)) = some l := rfl
theorem asQ_v (m : Sto) (l : List PyData) : asQ m (.v (.list l)) = some l := rfl
theorem asQ_s (m : Sto) (l : List Int) : asQ m (.s l) = some (l.map .int) := rfl
theorem asQ_r (m : Sto) (k : Nat) : asQ m (.r k) = asL m (.r k) := rfl
theorem asS_v (m : Sto) (l : List PyData) : asS m (.v (.list l)) = some l := rfl
theorem asS_t (m : Sto) (l : List PyData) : asS m (.v (.tuple l)) = some l := rfl
theorem asS_s (m : Sto) (l : List Int) : asS m (.s l) = some (l.map .int) := rfl
theorem asS_r (m : Sto) (k : Nat) : asS m (.r k) = asL m (.r k) := rfl
theorem asL_r (m : Sto) (k : Nat) : asL m (.r k) = match m[k]? with
  | some (.lst l) => some l
  | _ => none := rfl
theorem asD_r (m : Sto) (k : Nat) : asD m (.r k) = match m[k]? with
  | some (.lst l) => some (.list l)
  | some (.dct l) => some (.dict l)
  | _ => none := rfl
theorem asL_rk {m : Sto} {k : Nat} {l : List PyData} (h : m[k]? = some (.lst l)) : asL m (.r k) = some l := by simp [asL, h]
theorem asD_rk {m : Sto} {k : Nat} {l : List PyData} (h : m[k]? = some (.lst l)) : asD m (.r k) = some (.list l) := by simp [asD, h]
theorem asI_v (m : Sto) (l : List PyData) : asI m (.v (.list l)) = intsOf l := rfl
theorem asI_map (m : Sto) (l : List Int) : asI m (.v (.list (l.map .int))) = some l := intsOf_map l
theorem asB_map (m : Sto) (l : List Bool) : asBs m (.v (.list (l.map .bool))) = some l := boolsOf_map l
theorem asS_of {m : Sto} {u : U} {l : List PyData} (h : asL m u = some l) : asS m u = some l := by
  cases u with
  | v d => cases d <;> first | exact h | cases h
  | r k => exact h
  | s n => cases h
  | o n => cases h
theorem asQ_of {m : Sto} {u : U} {l : List PyData} (h : asL m u = some l) : asQ m u = some l := by
  cases u with
  | v d => cases d <;> first | exact h | cases h
  | r k => exact h
  | s n => cases h
  | o n => cases h
theorem asD_of {m : Sto} {u : U} {l : List PyData} (h : asL m u = some l) : asD m u = some (.list l) := by
  cases u with
  | v d => cases d <;> simp [asL] at h; subst h; rfl
  | r k =>
    simp only [asL] at h
    simp only [asD]
    split at h
    · cases h; simp [*]
    · cases h
  | s n => cases h
  | o n => cases h
/-- data that is no list stands as data -/
theorem asD_flat {m : Sto} {u : U} {d : PyData} (h : asD m u = some d) (hd : ∀ l, d ≠ .list l) (hd2 : ∀ l, d ≠ .dict l := by intro l z; cases z) : u = .v d := by
  cases u with
  | v e => simp [asD] at h; rw [h]
  | r k =>
    simp only [asD] at h
    split at h
    · cases h; exact absurd rfl (hd _)
    · cases h; exact absurd rfl (hd2 _)
    · cases h
  | s n => cases h
  | o n => cases h
theorem asL_of_D {m : Sto} {u : U} {l : List PyData} (h : asD m u = some (.list l)) : asL m u = some l := by
  cases u with
  | v e => simp [asD] at h; rw [h]; rfl
  | r k =>
    simp only [asD] at h
    simp only [asL]
    split at h
    · cases h; simp [*]
    · cases h
    · cases h
  | s n => cases h
  | o n => cases h
theorem guard_self (m : Sto) (u : U) : guardOf m u m := by cases u <;> first | trivial | rfl

/-! ### comprehensions without effects -/
theorem lcU_map {α : Type} {gd : Sto → Prop} {g : AG} {tt : AT} {te : AE} {E : En} {Q : QA} {m : Sto} (f : α → U) (p : α → Bool) (h : α → PyData) (hg : gd m) : ∀ (l : List α) (acc : List PyData), acc.length + l.length ≤ 1000000 →
    (∀ a ∈ l, ∀ (K1 : PyData → Sto → Prop) (K2 : Sto → Prop), (p a = true → K1 (h a) m) → (p a = false → K2 m) → g (f a) E m fun E1 m1 => tt E1 m1 fun c m2 => if c = true then te E1 m2 fun w m3 => (match w with
      | .v d => K1 d m3
      | _ => False) else K2 m2) →
    Q (.v (.list (acc ++ (l.filter p).map h))) m → lcU gd g tt te E Q (l.map f) acc m
  | [], acc, _, _, q => ⟨hg, by simpa using q⟩
  | a :: l, acc, hz, st, q => by
    simp only [List.length_cons] at hz
    refine ⟨hg, st a List.mem_cons_self (fun d m3 => acc.length < sizeLine ∧ lcU gd g tt te E Q (l.map f) (acc ++ [d]) m3) (fun m2 => lcU gd g tt te E Q (l.map f) acc m2) (fun hp => ?_) (fun hp => ?_)⟩
    · refine ⟨by rw [sizeLine_eq]; omega, lcU_map f p h hg l _ (by simp; omega) (fun b hb => st b (List.mem_cons_of_mem _ hb)) ?_⟩
      rw [List.filter_cons_of_pos hp] at q
      simpa using q
    · refine lcU_map f p h hg l _ (by omega) (fun b hb => st b (List.mem_cons_of_mem _ hb)) ?_
      rw [List.filter_cons_of_neg (by simp [hp])] at q
      exact q
theorem enumU_zip (l : List PyData) : enumU l = l.zipIdx.map fun p => U.v (.tuple [.int (p.2 : Nat), p.1]) := by
  unfold enumU
  rw [List.mapIdx_eq_zipIdx_map]
theorem map_bool {α : Type} (f : α → Bool) (l : List α) : (l.map fun a => PyData.bool (f a)) = (l.map f).map PyData.bool := by simp
theorem map_int {α : Type} (f : α → Int) (l : List α) : (l.map fun a => PyData.int (f a)) = (l.map f).map PyData.int := by simp
theorem filter_true {α : Type} (l : List α) : l.filter (fun _ => true) = l := by simp

theorem rngU_nat (a n : Nat) : rngU (a : Int) n = (List.range' a n).map fun (j : Nat) => U.v (.int (j : Int)) := by
  unfold rngU
  apply List.ext_getElem?
  intro i
  rw [List.getElem?_map, List.getElem?_map]
  by_cases h : i < n
  · rw [List.getElem?_range h, List.getElem?_range' h]
    simp
  · rw [List.getElem?_eq_none (by simpa using h), List.getElem?_eq_none (by simpa using h)]
    rfl
theorem atI_ints {ns : List Int} {j : Nat} (h : j < ns.length) : atI (ns.map PyData.int) (j : Int) = some (.int (ns.getD j 0)) := by
  refine atI_nat ?_
  rw [List.getElem?_map, List.getElem?_eq_getElem h]
  simp [List.getD_eq_getElem?_getD, List.getElem?_eq_getElem h]
theorem enumU_ints (ns : List Int) : enumU (ns.map .int) = (List.range ns.length).map fun (i : Nat) => U.v (.tuple [.int (i : Int), .int (ns.getD i 0)]) := by
  apply List.ext_getElem?
  intro i
  unfold enumU
  rw [List.getElem?_mapIdx, List.getElem?_map, List.getElem?_map]
  by_cases h : i < ns.length
  · simp [List.getElem?_range, h, List.getD_eq_getElem?_getD, List.getElem?_eq_getElem h]
  · simp [List.getElem?_eq_none (by simpa using h : ns.length ≤ i), h]

theorem forU_step {gd : Sto → Prop} {g : AG} {body : AS} {D : AEnds} {u : U} {us : List U} {E : En} {m : Sto} (P : En → Sto → Prop) (h0 : gd m) (hP : ∀ E2 m2, P E2 m2 → forU gd g body D us E2 m2)
    (hb : ∀ J : En → Sto → Prop, (∀ E2 m2, P E2 m2 → J E2 m2) → g u E m fun E1 m1 => body ⟨J, D.rt, D.nx, J⟩ E1 m1) : forU gd g body D (u :: us) E m := ⟨h0, hb _ hP⟩
/-- a for, by a word of what is left, the slots and the store -/
theorem forU_inv {gd : Sto → Prop} {g : AG} {body : AS} {D : AEnds} (I : List U → En → Sto → Prop) (hg : ∀ us E m, I us E m → gd m) (he : ∀ E m, I [] E m → D.nx E m)
    (hb : ∀ (u : U) (us : List U) (E : En) (m : Sto) (J : En → Sto → Prop), I (u :: us) E m → (∀ E2 m2, I us E2 m2 → J E2 m2) → g u E m fun E1 m1 => body ⟨J, D.rt, D.nx, J⟩ E1 m1) : ∀ (us : List U) (E : En) (m : Sto), I us E m → forU gd g body D us E m
  | [], E, m, h => ⟨hg _ _ _ h, he E m h⟩
  | u :: us, E, m, h => ⟨hg _ _ _ h, hb u us E m _ h fun E2 m2 h2 => forU_inv I hg he hb us E2 m2 h2⟩

/-- what stands behind a statement, by a word -/
theorem seq_of {a b : AS} {D : AEnds} {E : En} {m : Sto} (P : En → Sto → Prop) (hb : ∀ E1 m1, P E1 m1 → b D E1 m1) (ha : ∀ J : En → Sto → Prop, (∀ E1 m1, P E1 m1 → J E1 m1) → a ⟨J, D.rt, D.bk, D.ct⟩ E m) : dSeq a b D E m := ha _ hb
/-! ### while, by a word of the environment and a measure -/
theorem dWhile_of {t : AT} {b : AS} {D : AEnds} {E : En} {m : Sto} (n : Nat) (h : whN t b D n E m) : dWhile t b D E m := ⟨n, h⟩

/-! ### the end of a def -/
theorem ret_v (n : Nat) (Q : QA) (d : PyData) (m : Sto) (q : Q (.v d) (m.take n)) : retD n Q (.v d) m := q
end Z
namespace Z.P
open PySem PySem.Spec PyProof.Rows L2 Z
local macro_rules | `(tactic| walk_at "ev") => `(tactic| try simp only [dSeq, dAsg, dVar, dC, dOp, dUn, dB, dChain, dAnd, dOr, dNot, dAndV, dOrV, dNotV, dIf, dNil, dCons, dLst, dLstM, dTup, dCB, dNext, dExpr, dRet, dRetN, dFrz, dIfS, dAsgG, dPar2, dPar3, dUnp, dMeth, dCall, dSl, dPart, dNoPart, dRev, dIsN, dNotN, dIsi, dSetIx, dLRg1, dLRg2, aSortedI, aExt2, dGet, dIn, dPut, dDctM0, dDctM1, dDct2, aDictP, nwD, dSortSet, dGet2, sRngD, dStep, dReprL, asDs, aExtend, aIndex, aCount, aCountB, dLRgD, dLRgZ, sZipT, dLZ, aMaxT, aMinT, dFn, dCallV, gIx, unL_lists, dTry, dTryO, rCall, rCallF, xRaise, xRaiseI, aEqNil, endX, dIsx, dIsxT, aCmpD, sRngS, aSortD, dLenSc, dSortSc, dAug, dFor, dWhile, dLc, dLcM, lcUM, dNever, dBreak, dCont, dYes, dPick,
  aAdd, aSub, aDiv, aMod, aPow, aI, aIc, aB, aMul, aNeg, aEq, aNe, aNeX, aBB, aIn, aIx, aLen, aMax, aMin, aAbs, aSum, aAll, aAny, aList, aTuple, aInt, aSorted, aRepr, aAppend, aPop, aPopAt, aReverse, aClear, nw, allD, isNone, sList, sTup, sEnumT, sRng1, sRng2, sEnum, sZip, gN, gN0, gN1, gT, startU, endsD, retD, wipeE, setAll, 
  List.map_cons, List.map_nil, List.length_cons, List.length_nil, List.cons_append, List.nil_append, List.replicate, List.getElem?_cons_zero, List.getElem?_cons_succ, List.set_cons_zero, List.set_cons_succ, Nat.reduceAdd, Nat.reduceSub, Nat.reduceLeDiff, Nat.zero_add, Nat.add_zero, List.take_length, if_true, if_false, decide_true, decide_false, Bool.false_eq_true, Bool.not_true, Bool.not_false, Option.isSome_some, Option.map_some, Option.map_none, Option.bind_some, List.append_nil, true_and, and_true, asI_map, asB_map, shE_i, shE_b, shE_n, shE_s, shE_l, shE_t, asL_r, asD_r, asD_v, asL_v, asQ_v, asQ_s, asS_v, asS_t, asS_s, asQ_r, asS_r])
/-! ### links.py -/
def isInt : PyData → Int → Int → Bool
  | .int i, lo, hi => decide (lo ≤ i) && decide (i ≤ hi)
  | _, _, _ => false
def sp_is_integer : ASp := fun us m Q => ∃ u d lo hi, us = [u, .v (.int lo), .v (.int hi)] ∧ asD m u = some d ∧ Q (.v (.bool (isInt d lo hi))) m
theorem sem_is_integer (us : List U) (m : Sto) (Q : QA) (h : sp_is_integer us m Q) : g_is_integer (endsD m.length Q) (startU 3 us) m := by
  obtain ⟨u, d, lo, hi, rfl, hd, q⟩ := h
  unfold g_is_integer
  walk_at "ev"
  simp only [hd]
  cases d with
  | int i =>
    have hu := asD_flat hd (fun l z => by cases z)
    subst hu
    simp only [kindD, isK, isInt] at q ⊢
    by_cases h1 : lo ≤ i
    · simp_all
    · simp_all
      intro z
      omega
  | _ => simp_all [kindD, isK, isInt]
/-- a list with the form of a log -/
def formL (l : List PyData) : Bool := decide (1 ≤ (l.length : Int)) && decide ((l.length : Int) ≤ 150) && l.zipIdx.all fun p => isInt p.1 0 (max 0 ((p.2 : Int) - 1))
def formD : PyData → Bool
  | .list l => formL l
  | _ => false
def sp_have_form : ASp := fun us m Q => ∃ u d, us = [u] ∧ asD m u = some d ∧ Q (.v (.bool (formD d))) m
theorem maxif (i : Int) : (if i - 1 > 0 then i - 1 else 0) = max 0 (i - 1) := by omega
theorem sem_have_form (us : List U) (m : Sto) (Q : QA) (h : sp_have_form us m Q) : g_have_form sp_is_integer (endsD m.length Q) (startU 3 us) m := by
  obtain ⟨u, d, rfl, hd, q⟩ := h
  unfold g_have_form
  walk_at "ev"
  simp only [hd]
  cases d with
  | list l =>
    have hl := asL_of_D hd
    simp only [asS_of hl, hl]
    simp only [kindD, isK, formD, formL] at q ⊢
    by_cases h1 : 1 ≤ (l.length : Int)
    · by_cases h2 : (l.length : Int) ≤ 150
      · simp [h1, h2, enumU_zip]
        refine lcU_map _ (fun _ => true) (fun (p : PyData × Nat) => .bool (isInt p.1 0 (max 0 ((p.2 : Int) - 1)))) (guard_self m u) _ _ (by simp; omega) (fun a ha K1 K2 q1 q2 => ?_) ?_
        · walk_at "ev"
          refine ⟨.v a.1, a.1, 0, _, rfl, rfl, ?_⟩
          have q3 := q1 rfl
          rw [← maxif] at q3
          exact q3
        · rw [filter_true, List.nil_append, map_bool]
          walk_at "ev"
          simpa [h1, h2] using q
      · simp_all
    · simp_all
      intro z1 z2
      omega
  | _ => simp_all [kindD, isK, formD]
/-- two entries cross -/
def xAt (ns : List Int) (i j : Nat) : Bool := decide (ns.getD i 0 < ns.getD j 0) && decide (ns.getD j 0 < (i : Int))
/-- the least pair of entries that cross -/
def firstX (ns : List Int) : Option (Nat × Nat) := (List.range ns.length).findSome? fun i => ((List.range' (i + 1) (ns.length - (i + 1))).find? fun j => xAt ns i j).map fun j => (i, j)
def pairD : Option (Nat × Nat) → PyData
  | none => .none
  | some p => .tuple [.int p.1, .int p.2]
def sp_least_crossing : ASp := fun us m Q => ∃ u ns, us = [u] ∧ asL m u = some (ns.map .int) ∧ ns.length ≤ 1000000 ∧ Q (.v (pairD (firstX ns))) m
theorem lc_inner {u : U} {m : Sto} {ns : List Int} (hu : asL m u = some (ns.map .int)) (D : AEnds) (i : Nat) : ∀ (js : List Nat) (x : Option U), (∀ j ∈ js, j < ns.length) →
    (match js.find? fun j => xAt ns i j with
      | some j => D.rt (.v (.tuple [.int i, .int j])) m
      | none => ∀ y, D.nx [some u, some (.v (.int i)), some (.v (.int (ns.getD i 0))), y] m) →
    forU (fun _ => True) (gN 3) b1_least_crossing D (js.map fun (j : Nat) => U.v (.int (j : Int))) [some u, some (.v (.int i)), some (.v (.int (ns.getD i 0))), x] m
  | [], x, _, h => ⟨trivial, h x⟩
  | j :: js, x, hj, h => by
    refine ⟨trivial, ?_⟩
    have h1 := hj j List.mem_cons_self
    unfold b1_least_crossing
    walk_at "ev"
    simp only [asS_of hu, atI_ints h1]
    rw [List.find?_cons] at h
    by_cases c1 : ns.getD i 0 < ns.getD j 0
    · by_cases c2 : ns.getD j 0 < (i : Int)
      · have c : xAt ns i j = true := by unfold xAt; rw [decide_eq_true c1, decide_eq_true c2]; rfl
        simp only [c] at h
        simp only [c1, c2, decide_true, if_true]
        refine ⟨by rw [sizeLine_eq]; omega, h⟩
      · have c : xAt ns i j = false := by unfold xAt; rw [decide_eq_false c2, Bool.and_false]
        simp only [c] at h
        simp only [c1, c2, decide_true, decide_false, if_true, Bool.false_eq_true, if_false]
        exact lc_inner hu D i js _ (fun k hk => hj k (List.mem_cons_of_mem _ hk)) h
    · have c : xAt ns i j = false := by unfold xAt; rw [decide_eq_false c1, Bool.false_and]
      simp only [c] at h
      simp only [c1, decide_false, Bool.false_eq_true, if_false]
      exact lc_inner hu D i js _ (fun k hk => hj k (List.mem_cons_of_mem _ hk)) h
theorem lc_outer {u : U} {m : Sto} {ns : List Int} (hu : asL m u = some (ns.map .int)) (hz : ns.length ≤ 1000000) (D : AEnds) : ∀ (is : List Nat) (x y z : Option U), (∀ j ∈ is, j < ns.length) →
    (match is.findSome? fun i => ((List.range' (i + 1) (ns.length - (i + 1))).find? fun j => xAt ns i j).map fun j => (i, j) with
      | some p => D.rt (.v (.tuple [.int p.1, .int p.2])) m
      | none => ∀ x y z, D.nx [some u, x, y, z] m) →
    forU (guardOf m u) (gT 2 (gN1 (gN 1) (gN1 (gN 2) gN0))) b2_least_crossing D (is.map fun (i : Nat) => U.v (.tuple [.int (i : Int), .int (ns.getD i 0)])) [some u, x, y, z] m
  | [], x, y, z, _, h => ⟨guard_self m u, h x y z⟩
  | i :: is, x, y, z, hj, h => by
    refine ⟨guard_self m u, ?_⟩
    have h1 := hj i List.mem_cons_self
    unfold b2_least_crossing
    walk_at "ev"
    simp only [asS_of hu, List.length_map]
    refine ⟨by omega, ?_⟩
    rw [show ((i : Int) + 1) = ((i + 1 : Nat) : Int) by omega, rngU_nat, show ((ns.length : Int) - ((i + 1 : Nat) : Int)).toNat = ns.length - (i + 1) by omega]
    refine lc_inner hu _ i _ _ (fun j hj => ?_) ?_
    · have := List.mem_range'.mp hj
      omega
    · rw [List.findSome?_cons] at h
      cases q : (List.range' (i + 1) (ns.length - (i + 1))).find? fun j => xAt ns i j with
      | some j =>
        simp only [q, Option.map_some] at h ⊢
        exact h
      | none =>
        simp only [q, Option.map_none] at h ⊢
        exact fun y' => lc_outer hu hz D is _ _ _ (fun k hk => hj k (List.mem_cons_of_mem _ hk)) h
theorem sem_least_crossing (us : List U) (m : Sto) (Q : QA) (h : sp_least_crossing us m Q) : g_least_crossing (endsD m.length Q) (startU 4 us) m := by
  obtain ⟨u, ns, rfl, hu, hz, q⟩ := h
  unfold g_least_crossing
  walk_at "ev"
  simp only [hu, enumU_ints]
  refine lc_outer hu hz _ _ _ _ _ (fun j hj => List.mem_range.mp hj) ?_
  unfold firstX at q
  split
  · rename_i p hp
    rw [hp] at q
    walk_at "ev"
    exact q
  · rename_i hp
    rw [hp] at q
    intro x y z
    walk_at "ev"
    exact q
/-- a list is a log -/
def logI (ns : List Int) : Bool := formL (ns.map .int) && (firstX ns).isNone
def sp_is_log : ASp := fun us m Q => ∃ u ns, us = [u] ∧ asL m u = some (ns.map .int) ∧ ns.length ≤ 1000000 ∧ Q (.v (.bool (logI ns))) m
theorem sem_is_log (us : List U) (m : Sto) (Q : QA) (h : sp_is_log us m Q) : g_is_log sp_have_form sp_least_crossing (endsD m.length Q) (startU 1 us) m := by
  obtain ⟨u, ns, rfl, hu, hz, q⟩ := h
  unfold g_is_log
  walk_at "ev"
  refine ⟨u, .list (ns.map .int), rfl, asD_of hu, ?_⟩
  unfold logI at q
  simp only [formD] at q ⊢
  by_cases c : formL (ns.map .int) = true
  · simp only [c, if_true]
    rw [c] at q
    refine ⟨u, ns, rfl, hu, hz, ?_⟩
    walk_at "ev"
    cases e : firstX ns with
    | none => rw [e] at q; exact q
    | some p => rw [e] at q; exact q
  · have c' : formL (ns.map .int) = false := by simpa using c
    rw [c'] at q
    simp only [c', Bool.false_eq_true, if_false]
    walk_at "ev"
    exact q
/-- need_log, of a log -/
def sp_need_log : ASp := fun us m Q => ∃ u ns, us = [u] ∧ asL m u = some (ns.map .int) ∧ ns.length ≤ 1000000 ∧ logI ns = true ∧ Q (.v .none) m
theorem sem_need_log (us : List U) (m : Sto) (Q : QA) (h : sp_need_log us m Q) : g_need_log sp_is_log (endsD m.length Q) (startU 1 us) m := by
  obtain ⟨u, ns, rfl, hu, hz, hl, q⟩ := h
  unfold g_need_log
  walk_at "ev"
  refine ⟨u, ns, rfl, hu, hz, ?_⟩
  simp only [hl]
  walk_at "ev"
  exact q
def sp_crossing_in : ASp := fun us m Q => ∃ u ns, us = [u] ∧ asL m u = some (ns.map .int) ∧ ns.length ≤ 1000000 ∧ formL (ns.map .int) = true ∧ Q (.v (pairD (firstX ns))) m
theorem sem_crossing_in (us : List U) (m : Sto) (Q : QA) (h : sp_crossing_in us m Q) : g_crossing_in sp_have_form sp_least_crossing (endsD m.length Q) (startU 1 us) m := by
  obtain ⟨u, ns, rfl, hu, hz, hl, q⟩ := h
  unfold g_crossing_in
  walk_at "ev"
  refine ⟨u, .list (ns.map .int), rfl, asD_of hu, ?_⟩
  simp only [formD, hl]
  walk_at "ev"
  refine ⟨u, ns, rfl, hu, hz, ?_⟩
  walk_at "ev"
  exact q
end Z.P
/-! Z8: logs as lists of ints; the draws of the laws. -/
namespace Z.P
open PySem PySem.Spec PyProof.Rows L2 Z
local macro_rules | `(tactic| walk_at "ev") => `(tactic| try simp only [dSeq, dAsg, dVar, dC, dOp, dUn, dB, dChain, dAnd, dOr, dNot, dAndV, dOrV, dNotV, dIf, dNil, dCons, dLst, dLstM, dTup, dCB, dNext, dExpr, dRet, dRetN, dFrz, dIfS, dAsgG, dPar2, dPar3, dUnp, dMeth, dCall, dSl, dPart, dNoPart, dRev, dIsN, dNotN, dIsi, dSetIx, dLRg1, dLRg2, aSortedI, aExt2, dGet, dIn, dPut, dDctM0, dDctM1, dDct2, aDictP, nwD, dSortSet, dGet2, sRngD, dStep, dReprL, asDs, aExtend, aIndex, aCount, aCountB, dLRgD, dLRgZ, sZipT, dLZ, aMaxT, aMinT, dFn, dCallV, gIx, unL_lists, dTry, dTryO, rCall, rCallF, xRaise, xRaiseI, aEqNil, endX, dIsx, dIsxT, aCmpD, sRngS, aSortD, dLenSc, dSortSc, dAug, dFor, dWhile, dLc, dLcM, lcUM, dNever, dBreak, dCont, dYes, dPick,
  aAdd, aSub, aDiv, aMod, aPow, aI, aIc, aB, aMul, aNeg, aEq, aNe, aNeX, aBB, aIn, aIx, aLen, aMax, aMin, aAbs, aSum, aAll, aAny, aList, aTuple, aInt, aSorted, aRepr, aAppend, aPop, aPopAt, aReverse, aClear, nw, allD, isNone, sList, sTup, sEnumT, sRng1, sRng2, sEnum, sZip, gN, gN0, gN1, gT, startU, endsD, retD, wipeE, setAll, 
  List.map_cons, List.map_nil, List.length_cons, List.length_nil, List.cons_append, List.nil_append, List.replicate, List.getElem?_cons_zero, List.getElem?_cons_succ, List.set_cons_zero, List.set_cons_succ, Nat.reduceAdd, Nat.reduceSub, Nat.reduceLeDiff, Nat.zero_add, Nat.add_zero, List.take_length, if_true, if_false, decide_true, decide_false, Bool.false_eq_true, Bool.not_true, Bool.not_false, Option.isSome_some, Option.map_some, Option.map_none, Option.bind_some, List.append_nil, true_and, and_true, asI_map, asB_map, shE_i, shE_b, shE_n, shE_s, shE_l, shE_t, asL_r, asD_r, asD_v, asL_v, asQ_v, asQ_s, asS_v, asS_t, asS_s, asQ_r, asS_r])
/-! ### logs -/
theorem getD_snoc (ns : List Int) (t : Int) (i : Nat) : (ns ++ [t]).getD i 0 = if i < ns.length then ns.getD i 0 else if i = ns.length then t else 0 := by
  simp only [List.getD_eq_getElem?_getD]
  by_cases h : i < ns.length
  · rw [if_pos h, List.getElem?_append_left h]
  · rw [if_neg h, List.getElem?_append_right (by omega)]
    by_cases h2 : i = ns.length
    · subst h2; simp
    · rw [if_neg h2, List.getElem?_eq_none (by simp; omega)]
      rfl
def NoX (ns : List Int) : Prop := ∀ i j : Nat, i < j → j < ns.length → ¬ (ns.getD i 0 < ns.getD j 0 ∧ ns.getD j 0 < (i : Int))
def FormP (ns : List Int) : Prop := 1 ≤ ns.length ∧ ns.length ≤ 150 ∧ ∀ i : Nat, i < ns.length → 0 ≤ ns.getD i 0 ∧ ns.getD i 0 ≤ max 0 ((i : Int) - 1)
def LogP (ns : List Int) : Prop := FormP ns ∧ NoX ns
theorem formL_iff (ns : List Int) : formL (ns.map .int) = true ↔ FormP ns := by
  unfold formL FormP
  simp only [Bool.and_eq_true, decide_eq_true_eq, List.all_eq_true, List.length_map]
  constructor
  · rintro ⟨⟨h1, h2⟩, h3⟩
    refine ⟨by omega, by omega, fun i hi => ?_⟩
    have := h3 (.int (ns.getD i 0), i) (by
      rw [List.mem_zipIdx_iff_getElem?]
      simp [List.getD_eq_getElem?_getD, List.getElem?_eq_getElem hi])
    simp only [isInt, Bool.and_eq_true, decide_eq_true_eq] at this
    exact this
  · rintro ⟨h1, h2, h3⟩
    refine ⟨⟨by omega, by omega⟩, fun p hp => ?_⟩
    rw [List.mem_zipIdx_iff_getElem?, List.getElem?_map] at hp
    obtain ⟨n, e1, e2⟩ := Option.map_eq_some_iff.mp hp
    have hi := (List.getElem?_eq_some_iff.mp e1).1
    have := h3 p.2 hi
    rw [List.getD_eq_getElem?_getD, e1] at this
    rw [← e2]
    simp only [isInt, Bool.and_eq_true, decide_eq_true_eq]
    exact this
theorem xAt_iff (ns : List Int) (i j : Nat) : xAt ns i j = true ↔ ns.getD i 0 < ns.getD j 0 ∧ ns.getD j 0 < (i : Int) := by
  unfold xAt
  simp only [Bool.and_eq_true, decide_eq_true_eq]
theorem firstX_none (ns : List Int) : firstX ns = none ↔ NoX ns := by
  unfold firstX NoX
  rw [List.findSome?_eq_none_iff]
  constructor
  · intro h i j hij hj hx
    have := h i (List.mem_range.mpr (by omega))
    rw [Option.map_eq_none_iff, List.find?_eq_none] at this
    exact this j (List.mem_range'_1.mpr ⟨by omega, by omega⟩) ((xAt_iff ns i j).mpr hx)
  · intro h i hi
    rw [Option.map_eq_none_iff, List.find?_eq_none]
    intro j hj hx
    have h1 := List.mem_range'_1.mp hj
    have h2 := List.mem_range.mp hi
    exact h i j (by omega) (by omega) ((xAt_iff ns i j).mp hx)
theorem logI_iff (ns : List Int) : logI ns = true ↔ LogP ns := by
  unfold logI LogP
  rw [Bool.and_eq_true, formL_iff, ← firstX_none]
  constructor
  · rintro ⟨h1, h2⟩
    exact ⟨h1, by simpa using h2⟩
  · rintro ⟨h1, h2⟩
    exact ⟨h1, by rw [h2]; rfl⟩
/-- targets that may come next, in ascending order -/
structure AlOk (ns al : List Int) : Prop where
  ne : al ≠ []
  len : al.length ≤ ns.length
  asc : al.Pairwise (· < ·)
  ok : ∀ t ∈ al, 0 ≤ t ∧ t < ns.length ∧ ∀ i : Nat, i < ns.length → ¬ (ns.getD i 0 < t ∧ t < (i : Int))
theorem logP_one : LogP [0] := by
  refine ⟨⟨by decide, by decide, fun i hi => ?_⟩, fun i j hij hj => ?_⟩
  · have : i = 0 := by simpa using hi
    subst this
    decide
  · simp at hj; omega
theorem alOk_one : AlOk [0] [0] := by
  refine ⟨by simp, by simp, by simp, fun t ht => ?_⟩
  have : t = 0 := by simpa using ht
  subst this
  refine ⟨by omega, by simp, fun i hi => ?_⟩
  have : i = 0 := by simpa using hi
  subst this
  omega
theorem logP_snoc {ns : List Int} {t : Int} (h : LogP ns) (hl : ns.length < 150) (h0 : 0 ≤ t) (h1 : t < ns.length) (hx : ∀ i : Nat, i < ns.length → ¬ (ns.getD i 0 < t ∧ t < (i : Int))) : LogP (ns ++ [t]) := by
  obtain ⟨⟨f1, f2, f3⟩, nx⟩ := h
  refine ⟨⟨by simp, by simp; omega, fun i hi => ?_⟩, fun i j hij hj => ?_⟩
  · rw [getD_snoc]
    simp at hi
    by_cases h2 : i < ns.length
    · rw [if_pos h2]; exact f3 i h2
    · rw [if_neg h2, if_pos (by omega)]; omega
  · simp at hj
    rw [getD_snoc, getD_snoc, if_pos (show i < ns.length by omega)]
    by_cases h2 : j < ns.length
    · rw [if_pos h2]; exact nx i j hij h2
    · rw [if_neg h2, if_pos (by omega)]
      exact hx i (by omega)
theorem alOk_snoc {ns al : List Int} {k : Nat} {t : Int} (h : AlOk ns al) (hk : al[k]? = some t) : AlOk (ns ++ [t]) (al.take (k + 1) ++ [(ns.length : Int)]) := by
  have hkl := (List.getElem?_eq_some_iff.mp hk).1
  have tm : t ∈ al := List.mem_of_getElem? hk
  have le : ∀ x ∈ al.take (k + 1), x ≤ t := fun x hx => by
    obtain ⟨j, hj, e⟩ := List.getElem_of_mem hx
    rw [List.length_take] at hj
    rw [List.getElem_take] at e
    have ht : al[k] = t := (List.getElem?_eq_some_iff.mp hk).2
    by_cases hjk : j = k
    · subst hjk; omega
    · have := List.pairwise_iff_getElem.mp h.asc j k (by omega) hkl (by omega)
      omega
  refine ⟨by simp, by have := h.len; simp; omega, ?_, fun x hx => ?_⟩
  · rw [List.pairwise_append]
    refine ⟨h.asc.sublist (List.take_sublist _ _), by simp, fun a ha b hb => ?_⟩
    have : b = ns.length := by simpa using hb
    subst this
    exact (h.ok a (List.mem_of_mem_take ha)).2.1
  · rcases List.mem_append.mp hx with hx | hx
    · obtain ⟨q1, q2, q3⟩ := h.ok x (List.mem_of_mem_take hx)
      refine ⟨q1, by simp; omega, fun i hi => ?_⟩
      rw [getD_snoc]
      simp at hi
      by_cases h2 : i < ns.length
      · rw [if_pos h2]; exact q3 i h2
      · rw [if_neg h2, if_pos (by omega)]
        have := le x hx
        omega
    · have : x = ns.length := by simpa using hx
      subst this
      refine ⟨by omega, by simp; omega, fun i hi => ?_⟩
      simp at hi
      omega

/-! ### the draws: a cell of three ints -/
def Vt (k T : Nat) (m : Sto) : Prop := ∃ a b c : Int, m[k]? = some (.lst [.int a, .int b, .int c]) ∧ 0 ≤ a ∧ 0 ≤ b ∧ b < 1000000000000000000000000000000000000000000000000000000000000 ∧ 0 ≤ c ∧ c ≤ (T : Int)
/-- the first n cells stay, but k's -/
def Fx (k n : Nat) (m m' : Sto) : Prop := n ≤ m.length ∧ n ≤ m'.length ∧ ∀ j, j < n → j ≠ k → m'[j]? = m[j]?
theorem Vt.lt {k T : Nat} {m : Sto} (h : Vt k T m) : k < m.length := by
  obtain ⟨a, b, c, e, _⟩ := h
  exact (List.getElem?_eq_some_iff.mp e).1
theorem Vt.mono {k T T' : Nat} {m : Sto} (h : Vt k T m) (hT : T ≤ T') : Vt k T' m := by
  obtain ⟨a, b, c, e, h1, h2, h3, h4, h5⟩ := h
  exact ⟨a, b, c, e, h1, h2, h3, h4, by omega⟩
theorem Vt.of_eq {k T : Nat} {m m' : Sto} (h : Vt k T m) (e : m'[k]? = m[k]?) : Vt k T m' := by
  obtain ⟨a, b, c, e1, r⟩ := h
  exact ⟨a, b, c, e.trans e1, r⟩
theorem Fx.refl {k n : Nat} {m : Sto} (h : n ≤ m.length) : Fx k n m m := ⟨h, h, fun _ _ _ => rfl⟩
theorem Fx.trans {k n : Nat} {m m1 m2 : Sto} (a : Fx k n m m1) (b : Fx k n m1 m2) : Fx k n m m2 := ⟨a.1, b.2.1, fun j h1 h2 => (b.2.2 j h1 h2).trans (a.2.2 j h1 h2)⟩
theorem Fx.less {k n n' : Nat} {m m1 : Sto} (a : Fx k n m m1) (h : n' ≤ n) : Fx k n' m m1 := ⟨by have := a.1; omega, by have := a.2.1; omega, fun j h1 h2 => a.2.2 j (by omega) h2⟩
theorem Fx.take {k n : Nat} {m m1 : Sto} (a : Fx k n m m1) : Fx k n m (m1.take n) := ⟨a.1, by rw [List.length_take]; have := a.2.1; omega, fun j h1 h2 => by rw [List.getElem?_take_of_lt h1]; exact a.2.2 j h1 h2⟩
theorem Vt.take {k T n : Nat} {m : Sto} (h : Vt k T m) (hk : k < n) : Vt k T (m.take n) := h.of_eq (by rw [List.getElem?_take_of_lt hk])
/-- more cells behind -/
theorem Fx.app {k n : Nat} {m m1 l : Sto} (a : Fx k n m m1) : Fx k n m (m1 ++ l) := ⟨a.1, by have := a.2.1; simp; omega, fun j h1 h2 => by rw [List.getElem?_append_left (by have := a.2.1; omega)]; exact a.2.2 j h1 h2⟩
theorem Vt.app {k T : Nat} {m l : Sto} (h : Vt k T m) : Vt k T (m ++ l) := h.of_eq (by rw [List.getElem?_append_left h.lt])
/-- another cell is changed -/
theorem Fx.set {k n j : Nat} {m m1 : Sto} {c : Cell} (a : Fx k n m m1) (h : n ≤ j) : Fx k n m (m1.set j c) := ⟨a.1, by have := a.2.1; simpa using this, fun i h1 h2 => by rw [List.getElem?_set_ne (by omega)]; exact a.2.2 i h1 h2⟩
theorem Vt.set {k T j : Nat} {m : Sto} {c : Cell} (h : Vt k T m) (hj : j ≠ k) : Vt k T (m.set j c) := h.of_eq (by rw [List.getElem?_set_ne hj])
theorem set_len {j : Nat} {m : Sto} {c : Cell} : (m.set j c).length = m.length := List.length_set
theorem set_self {j : Nat} {m : Sto} {c : Cell} (h : j < m.length) : (m.set j c)[j]? = some c := List.getElem?_set_self h
theorem intBits_le {i : Int} {n : Nat} (h0 : 0 < n) (h : i.natAbs < 2 ^ n) : Builtin.Int.intBits i ≤ n := by
  have := PySem.Flt.log2_lt_of h0 h
  unfold Builtin.Int.intBits
  split <;> omega
theorem pw3 {i : Int} (h0 : 0 ≤ i) (h : i < 1000000000000000000000000000000000000000000000000000000000000000000000000000000000) : CPw i 3 := by
  refine ⟨by decide, .inr ?_⟩
  have h1 : i.natAbs < 2 ^ 300 := Nat.lt_of_lt_of_le (by omega : i.natAbs < 1000000000000000000000000000000000000000000000000000000000000000000000000000000000) (by decide)
  have := intBits_le (by decide) h1
  have e : (2 : Int) ^ 27 = 134217728 := by decide
  rw [e]
  omega
theorem pw10 {j : Int} (h0 : 0 ≤ j) (h : j ≤ 1000) : CPw 10 j := ⟨h0, .inl ⟨by omega, by decide⟩⟩
theorem ml_small {i j : Int} (h : (-(2 ^ 64) < i ∧ i < 2 ^ 64) ∨ (-(2 ^ 64) < j ∧ j < 2 ^ 64)) : CMl i j := .inl h
theorem at0 {α : Type} (x y z : α) : atI [x, y, z] 0 = some x := rfl
theorem at1 {α : Type} (x y z : α) : atI [x, y, z] 1 = some y := rfl
theorem at2 {α : Type} (x y z : α) : atI [x, y, z] 2 = some z := rfl
theorem ix0 : ixN 3 0 = some 0 := rfl
theorem ix1 : ixN 3 1 = some 1 := rfl
theorem ix2 : ixN 3 2 = some 2 := rfl
def sp_law_drip : ASp := fun us m Q => ∃ (k T : Nat) (many : Int), us = [.r k, .v (.int many)] ∧ Vt k T m ∧ T < 1000000000000 ∧ CDv 0 many ∧
  ∀ (r : Int) (m' : Sto), 0 ≤ r → r < many → m'.length = m.length → Fx k m.length m m' → Vt k (T + 1) m' → Q (.v (.int r)) m'
theorem sem_law_drip (us : List U) (m : Sto) (Q : QA) (h : sp_law_drip us m Q) : g_law_drip (endsD m.length Q) (startU 4 us) m := by
  obtain ⟨k, T, many, rfl, ⟨a, b, c, hk, h1, h2, h3, h4, h5⟩, hT, hm, q⟩ := h
  have hm0 : 0 < many := hm.1
  have hlt := (List.getElem?_eq_some_iff.mp hk).1
  unfold g_law_drip
  walk_at "ev"
  have eS : ∀ c : Cell, (m.set k c)[k]? = some c := fun c => List.getElem?_set_self hlt
  have tk : ∀ c : Cell, (m.set k c).take m.length = m.set k c := fun c => List.take_of_length_le (by rw [List.length_set]; exact Nat.le_refl _)
  have fin : ∀ (r a' b' c' : Int), 0 ≤ r → r < many → 0 ≤ a' → 0 ≤ b' → b' < 1000000000000000000000000000000000000000000000000000000000000 → 0 ≤ c' → c' ≤ (T : Int) + 1 → Q (.v (.int r)) (m.set k (.lst [.int a', .int b', .int c'])) := fun r a' b' c' g1 g2 g3 g4 g5 g6 g7 =>
    q r _ g1 g2 List.length_set ⟨Nat.le_refl _, by rw [List.length_set]; exact Nat.le_refl _, fun j _ hj => List.getElem?_set_ne (Ne.symm hj)⟩ ⟨a', b', c', eS _, g3, g4, g5, g6, by omega⟩
  by_cases ha : 0 < a
  · simp only [hk, at0, ix0, ha, decide_true, List.length_cons, List.length_nil]
    walk_at "ev"
    simp only [hk, at0, ix0]
    walk_at "ev"
    refine ⟨hm0, ⟨hm0, hm.2⟩, ?_⟩
    simp only [ix0, List.set_cons_zero, tk]
    exact fin _ _ b c (Int.emod_nonneg _ (by omega)) (Int.emod_lt_of_pos _ hm0) (Int.ediv_nonneg h1 (by omega)) h2 h3 h4 (by omega)
  · simp only [hk, at0, at1, at2, ix0, ix1, ix2, ha, decide_false, List.length_cons, List.length_nil]
    walk_at "ev"
    simp only [ix2, at0, at1, at2, List.set_cons_zero, List.set_cons_succ, eS, tk]
    walk_at "ev"
    have e43 : (10 : Int) ^ Int.toNat 43 + 57 = 10000000000000000000000000000000000000000057 := by decide
    have e42 : (10 : Int) ^ Int.toNat 42 + 63 = 1000000000000000000000000000000000000000063 := by decide
    simp only [e43, e42]
    have d1 : 0 ≤ (b + 2654435761 * (c + 1)) ^ Int.toNat 3 % 10000000000000000000000000000000000000000057 := Int.emod_nonneg _ (by decide)
    have d2 : (b + 2654435761 * (c + 1)) ^ Int.toNat 3 % 10000000000000000000000000000000000000000057 < 10000000000000000000000000000000000000000057 := Int.emod_lt_of_pos _ (by decide)
    generalize (b + 2654435761 * (c + 1)) ^ Int.toNat 3 % 10000000000000000000000000000000000000000057 = d at *
    refine ⟨ml_small (by omega), pw3 (by omega) (by omega), pw10 (by decide) (by decide), by decide, ml_small (by omega), pw3 (by omega) (by omega), pw10 (by decide) (by decide), by decide, ⟨by decide, by omega⟩, hm0, ?_⟩
    exact fin _ a b (c + 1) (Int.emod_nonneg _ (by omega)) (Int.emod_lt_of_pos _ hm0) h1 h2 h3 (by omega) (by omega)
theorem atI_at {α : Type} {l : List α} {i : Int} (h0 : 0 ≤ i) (h1 : i < l.length) : atI l i = l[i.toNat]? := by
  unfold atI ixN
  rw [if_pos h0, if_pos h1]
  rfl
theorem atI_ex {α : Type} {l : List α} {i : Int} (h0 : 0 ≤ i) (h1 : i < l.length) : ∃ v, atI l i = some v ∧ v ∈ l := by
  have h : i.toNat < l.length := by omega
  exact ⟨l[i.toNat], by rw [atI_at h0 h1, List.getElem?_eq_getElem h], List.getElem_mem h⟩
/-- a list of ints, at a place -/
theorem atI_exI {l : List Int} {i : Int} (h0 : 0 ≤ i) (h1 : i < l.length) : ∃ v : Int, atI (l.map PyData.int) i = some (.int v) ∧ l[i.toNat]? = some v ∧ v ∈ l := by
  have h : i.toNat < l.length := by omega
  refine ⟨l[i.toNat], ?_, List.getElem?_eq_getElem h, List.getElem_mem h⟩
  rw [atI_at h0 (by simpa using h1), List.getElem?_map, List.getElem?_eq_getElem h]
  rfl
theorem Vt.new {m : Sto} {a b : Int} (h1 : 0 ≤ a) (h2 : 0 ≤ b) (h3 : b < 1000000000000000000000000000000000000000000000000000000000000) : Vt m.length 0 (m ++ [.lst [.int a, .int b, .int 0]]) :=
  ⟨a, b, 0, by rw [List.getElem?_append_right (Nat.le_refl _)]; simp, h1, h2, h3, by omega, by omega⟩
def sp_law_vat : ASp := fun us m Q => ∃ (ns : List Int) (k : Int), us = [.s ns, .v (.int k)] ∧ 0 ≤ k ∧ k ≤ 1000 ∧ ∀ c, Vt m.length 0 (m ++ [c]) → Q (.r m.length) (m ++ [c])
theorem sem_law_vat (us : List U) (m : Sto) (Q : QA) (h : sp_law_vat us m Q) : g_law_vat (endsD m.length Q) (startU 3 us) m := by
  obtain ⟨ns, k, rfl, h0, h1, q⟩ := h
  unfold g_law_vat
  walk_at "ev"
  have main : ∀ x : Int, 0 ≤ x % (10 ^ Int.toNat 40 + 121) ∧ x % (10 ^ Int.toNat 40 + 121) < 10 ^ Int.toNat 40 + 121 := fun x => ⟨Int.emod_nonneg _ (by decide), Int.emod_lt_of_pos _ (by decide)⟩
  have e40 : (10 : Int) ^ Int.toNat 40 + 121 = 10000000000000000000000000000000000000121 := by decide
  have e18 : (10 : Int) ^ Int.toNat 18 = 1000000000000000000 := by decide
  rw [e40] at main
  simp only [List.length_map, e40, e18]
  by_cases hk : k < (ns.length : Int)
  · obtain ⟨v, e1, e2, _⟩ := atI_exI h0 hk
    simp only [hk, decide_true, e1]
    walk_at "ev"
    obtain ⟨m1, m2⟩ := main v
    generalize v % 10000000000000000000000000000000000000121 = z at *
    refine ⟨pw10 (by decide) (by decide), pw10 (by decide) (by decide), by decide, ml_small (by omega), ml_small (by omega), by decide, ?_⟩
    simp only [Nat.lt_irrefl, if_false]
    simp
    refine q _ (Vt.new ?_ (by omega) (by omega)) <;> first | omega | (split <;> omega)
  · simp only [hk, decide_false]
    walk_at "ev"
    obtain ⟨m1, m2⟩ := main 0
    generalize (0 : Int) % 10000000000000000000000000000000000000121 = z at *
    refine ⟨pw10 (by decide) (by decide), pw10 (by decide) (by decide), by decide, ml_small (by omega), ml_small (by omega), by decide, ?_⟩
    simp only [Nat.lt_irrefl, if_false]
    simp
    refine q _ (Vt.new ?_ (by omega) (by omega)) <;> first | omega | (split <;> omega)
def sp_law_log : ASp := fun us m Q => ∃ (k T : Nat) (size : Int), us = [.r k, .v (.int size)] ∧ Vt k T m ∧ T < 100000000000 ∧ 1 ≤ size ∧ size ≤ 150 ∧
  ∀ (ns : List Int) (m' : Sto), LogP ns → (ns.length : Int) = size → m'.length = m.length → Fx k m.length m m' → Vt k (T + 2000) m' → Q (.v (.list (ns.map .int))) m'
theorem log_loop {D : AEnds} {k f : Nat} {sz : U} {m0 : Sto} (hf : f = m0.length) (way : Int) (hw0 : 0 ≤ way) (hw6 : way < 6) : ∀ (n a : Nat) (ns al : List Int) (T : Nat) (m1 : Sto) (x5 x6 x7 x8 : Option U),
    ns.length = a → a + n ≤ 150 → LogP ns → AlOk ns al → m1[f]? = some (.lst (ns.map .int)) → Vt k T m1 → T + 6 * n < 1000000000000 → Fx k m0.length m0 m1 → k < m0.length →
    (∀ (ns' : List Int) (m' : Sto) (al' x5 x6 x7 x8 : Option U), LogP ns' → ns'.length = a + n → m'[f]? = some (.lst (ns'.map .int)) → Vt k (T + 6 * n) m' → Fx k m0.length m0 m' →
      D.nx [some (.r k), some sz, some (.r f), al', some (.v (.int way)), x5, x6, x7, x8] m') →
    forU (fun _ => True) (gN 5) (b1_law_log sp_law_drip) D ((List.range' a n).map fun (j : Nat) => U.v (.int (j : Int))) [some (.r k), some sz, some (.r f), some (.v (.list (al.map .int))), some (.v (.int way)), x5, x6, x7, x8] m1
  | 0, a, ns, al, T, m1, x5, x6, x7, x8, ha, hn, hL, hA, hm, hV, hT, hF, hk, q => ⟨trivial, q ns m1 _ _ _ _ _ hL (by omega) hm hV hF⟩
  | n + 1, a, ns, al, T, m1, x5, x6, x7, x8, ha, hn, hL, hA, hm, hV, hT, hF, hk, q => by
    rw [List.range'_succ, List.map_cons]
    refine forU_step (fun E2 m2 => ∃ (ns' al' : List Int) (x5 x6 x7 x8 : Option U), E2 = [some (.r k), some sz, some (.r f), some (.v (.list (al'.map .int))), some (.v (.int way)), x5, x6, x7, x8] ∧ ns'.length = a + 1 ∧ LogP ns' ∧ AlOk ns' al' ∧
      m2[f]? = some (.lst (ns'.map .int)) ∧ Vt k (T + 6) m2 ∧ Fx k m0.length m0 m2) trivial ?_ ?_
    · rintro E2 m2 ⟨ns', al', y5, y6, y7, y8, rfl, h1, h2, h3, h4, h5, h6⟩
      refine log_loop hf way hw0 hw6 n (a + 1) ns' al' (T + 6) m2 _ _ _ _ h1 (by omega) h2 h3 h4 h5 (by omega) h6 hk ?_
      intro ns2 m3 al2 z5 z6 z7 z8 g1 g2 g3 g4 g5
      exact q ns2 m3 al2 z5 z6 z7 z8 g1 (by omega) g3 (g4.mono (by omega)) g5
    intro J hJ
    have hal : 0 < al.length := List.length_pos_iff.mpr hA.ne
    have hall := hA.len
    have hfl : f < m1.length := (List.getElem?_eq_some_iff.mp hm).1
    have fin : ∀ (spot : Int) (m2 : Sto) (y6 y7 : Option U), 0 ≤ spot → spot < al.length → m2.length = m1.length → m2[f]? = some (.lst (ns.map .int)) → Vt k (T + 6) m2 → Fx k m0.length m0 m2 →
        ∃ t : Int, atI (al.map PyData.int) spot = some (.int t) ∧ J [some (.r k), some sz, some (.r f), some (.v (.list (cutD (al.map PyData.int) none (some (spot + 1)) ++ [PyData.int (a : Int)]))), some (.v (.int way)), some (.v (.int (a : Int))), y6, y7, some (.v (.int spot))] (m2.set f (.lst (ns.map PyData.int ++ [.int t]))) := by
      intro spot m2 y6 y7 g1 g2 g3 g4 g5 g6
      obtain ⟨t, e1, e2, e3⟩ := atI_exI g1 g2
      refine ⟨t, e1, hJ _ _ ⟨ns ++ [t], al.take (spot.toNat + 1) ++ [(ns.length : Int)], some (.v (.int (a : Int))), y6, y7, some (.v (.int spot)), ?_, by simp; omega, ?_, ?_, ?_, ?_, ?_⟩⟩
      · have ec : cutD (al.map PyData.int) none (some (spot + 1)) = (al.take (spot.toNat + 1)).map PyData.int := by
          unfold cutD
          rw [HT.sIx_none, show spot + 1 = ((spot.toNat + 1 : Nat) : Int) by omega, HT.sIx_nat, List.drop_zero, Nat.sub_zero, List.map_take, List.length_map]
          rw [show min (spot.toNat + 1) al.length = spot.toNat + 1 by omega]
        rw [ec, List.map_append, ha]
        rfl
      · obtain ⟨q1, q2, q3⟩ := hA.ok t e3
        exact logP_snoc hL (by omega) q1 q2 q3
      · exact alOk_snoc hA e2
      · rw [List.map_append]
        exact List.getElem?_set_self (by omega)
      · exact g5.set (by omega)
      · exact g6.set (by omega)
    unfold b1_law_log
    walk_at "ev"
    simp only [List.length_map]
    refine ⟨k, T, _, rfl, hV, by omega, ⟨by omega, .inl (by omega)⟩, fun r1 m2 g1 g2 gl2 gF2 hV2 => ?_⟩
    walk_at "ev"
    refine ⟨k, T + 1, _, rfl, hV2, by omega, ⟨by omega, .inl (by omega)⟩, fun r2 m3 g3 g4 gl3 gF3 hV3 => ?_⟩
    walk_at "ev"
    refine ⟨by decide, ?_⟩
    refine ⟨k, T + 2, _, rfl, hV3, by omega, ⟨by omega, .inl (by omega)⟩, fun r3 m4 g5 g6 gl4 gF4 hV4 => ?_⟩
    walk_at "ev"
    refine ⟨ml_small (by omega), ⟨by decide, by omega⟩, by decide, by decide, ?_⟩
    refine ⟨k, T + 3, _, rfl, hV4, by omega, ⟨by omega, .inl (by omega)⟩, fun r4 m5 g7 g8 gl5 gF5 hV5 => ?_⟩
    have e5 : m5[f]? = some (.lst (ns.map .int)) := by
      rw [gF5.2.2 f (by omega) (by omega), gF4.2.2 f (by omega) (by omega), gF3.2.2 f (by omega) (by omega), gF2.2.2 f (by omega) (by omega)]
      exact hm
    have f5 : Fx k m0.length m0 m5 := ((((hF.trans (gF2.less hF.2.1)).trans (gF3.less (by have := hF.2.1; omega))).trans (gF4.less (by have := hF.2.1; omega))).trans (gF5.less (by have := hF.2.1; omega)))
    have tail : ∀ (spot : Int) (m6 : Sto) (y7 : Option U), 0 ≤ spot → spot < al.length → m6.length = m1.length → m6[f]? = some (.lst (ns.map .int)) → Vt k (T + 6) m6 → Fx k m0.length m0 m6 →
        (match m6[f]? with
          | some (Cell.lst l) => some l
          | x => none).isSome = true := fun spot m6 y7 _ _ _ e _ _ => by rw [e]; rfl
    walk_at "ev"
    by_cases h4 : 0 < r4
    · simp only [h4, decide_true, if_true]
      have hp : ∃ s : Int, atI [PyData.int r1, PyData.int ((al.length : Int) - 1), PyData.int 0, PyData.int (if (al.length : Int) - 1 - r2 > 0 then (al.length : Int) - 1 - r2 else 0), PyData.int (((al.length : Int) - 1) * r3), PyData.int (((al.length : Int) - 1) / 2)] way = some (.int s) ∧ 0 ≤ s ∧ s < al.length := by
        obtain ⟨s, e1, _, e3⟩ := atI_exI (l := [r1, (al.length : Int) - 1, 0, if (al.length : Int) - 1 - r2 > 0 then (al.length : Int) - 1 - r2 else 0, ((al.length : Int) - 1) * r3, ((al.length : Int) - 1) / 2]) hw0 (by simpa using hw6)
        refine ⟨s, e1, ?_⟩
        have h3 : r3 = 0 ∨ r3 = 1 := by omega
        simp only [List.mem_cons, List.not_mem_nil, or_false] at e3
        rcases e3 with e3 | e3 | e3 | e3 | e3 | e3
        · omega
        · omega
        · omega
        · rw [e3]; split <;> omega
        · rcases h3 with h3 | h3 <;> rw [h3] at e3 <;> omega
        · omega
      obtain ⟨s, hs, s0, s1⟩ := hp
      obtain ⟨t, ht, hJ2⟩ := fin s m5 _ _ s0 s1 (by omega) e5 (hV5.mono (by omega)) f5
      simp only [hs]
      walk_at "ev"
      simp only [e5, ht, Option.isSome_some, List.length_map]
      walk_at "ev"
      refine ⟨by rw [sizeLine_eq]; omega, by decide, ?_, hJ2⟩
      have hc : (cutD (al.map PyData.int) none (some (s + 1))).length ≤ (al.map PyData.int).length := by
        unfold cutD
        rw [List.length_take, List.length_drop]
        omega
      rw [List.length_map] at hc
      rw [sizeLine_eq]
      omega
    · simp only [h4, decide_false, Bool.false_eq_true, if_false]
      refine ⟨k, T + 4, _, rfl, hV5, by omega, ⟨by omega, .inl (by omega)⟩, fun s m6 s0 s1 gl6 gF6 hV6 => ?_⟩
      have e6 : m6[f]? = some (.lst (ns.map .int)) := by rw [gF6.2.2 f (by omega) (by omega)]; exact e5
      obtain ⟨t, ht, hJ2⟩ := fin s m6 _ _ s0 (by omega) (by omega) e6 (hV6.mono (by omega)) (f5.trans (gF6.less (by have := f5.2.1; omega)))
      walk_at "ev"
      simp only [e6, ht, Option.isSome_some, List.length_map]
      walk_at "ev"
      refine ⟨by rw [sizeLine_eq]; omega, by decide, ?_, hJ2⟩
      have hc : (cutD (al.map PyData.int) none (some (s + 1))).length ≤ (al.map PyData.int).length := by
        unfold cutD
        rw [List.length_take, List.length_drop]
        omega
      rw [List.length_map] at hc
      rw [sizeLine_eq]
      omega
theorem sem_law_log (us : List U) (m : Sto) (Q : QA) (h : sp_law_log us m Q) : g_law_log sp_law_drip (endsD m.length Q) (startU 9 us) m := by
  obtain ⟨k, T, size, rfl, hV, hT, h1, h2, q⟩ := h
  have hk := hV.lt
  unfold g_law_log
  walk_at "ev"
  refine ⟨by decide, by decide, k, T, 6, rfl, hV.app, by omega, ⟨by omega, .inl (by omega)⟩, fun way m1 w0 w6 gl gF hV1 => ?_⟩
  walk_at "ev"
  refine ⟨by omega, ?_⟩
  rw [show (1 : Int) = ((1 : Nat) : Int) from rfl, rngU_nat]
  have hfx : Fx k m.length m m1 := ((Fx.refl (Nat.le_refl _)).app (l := [.lst [.int 0]])).trans (gF.less (by simp))
  have hl1 : m1.length = m.length + 1 := by rw [gl]; simp
  refine log_loop (f := m.length) (m0 := m) rfl way w0 w6 (size - 1).toNat 1 [0] [0] (T + 1) m1 _ _ _ _ rfl (by omega) logP_one alOk_one ?_ hV1 (by omega) hfx hk ?_
  · rw [gF.2.2 m.length (by simp) (by omega), List.getElem?_append_right (Nat.le_refl _)]
    simp
  · intro ns' m' al' x5 x6 x7 x8 hL hlen hm' hV' hF'
    walk_at "ev"
    simp only [hm']
    refine q ns' _ hL (by omega) ?_ ?_ ?_
    · rw [List.length_take, List.length_set]
      have := hF'.2.1
      omega
    · exact (hF'.set (Nat.le_refl _)).take
    · exact ((hV'.set (by omega)).mono (by omega)).take hk
end Z.P
/-! Z9: lists of ints compared; the targets that may come next. -/
namespace Z
open PySem PySem.Spec PyProof.Rows L2
theorem eqv_ii (a b : Int) : PyData.eqv (.int a) (.int b) = decide (a = b) := by simp [PyData.eqv, BEq.beq]
theorem eqvAll_ii : ∀ xs ys : List Int, PyData.eqvAll (xs.map .int) (ys.map .int) = decide (xs = ys)
  | [], [] => by simp [PyData.eqvAll]
  | [], _ :: _ => by simp [PyData.eqvAll]
  | _ :: _, [] => by simp [PyData.eqvAll]
  | x :: xs, y :: ys => by
    rw [List.map_cons, List.map_cons, PyData.eqvAll, eqv_ii, eqvAll_ii xs ys]
    by_cases h : x = y <;> by_cases h2 : xs = ys <;> simp [h, h2]
theorem eqv_ll (xs ys : List Int) : PyData.eqv (.list (xs.map .int)) (.list (ys.map .int)) = decide (xs = ys) := by
  rw [PyData.eqv, eqvAll_ii]
theorem eqv_ll' {xs ys : List PyData} {a b : List Int} (h1 : xs = a.map .int) (h2 : ys = b.map .int) : PyData.eqv (.list xs) (.list ys) = decide (a = b) := by rw [h1, h2, eqv_ll]
theorem canLay_ints : ∀ xs : List Int, PyData.canLayAll0 (xs.map .int) = true
  | [] => rfl
  | x :: xs => by rw [List.map_cons, PyData.canLayAll0, canLay_ints xs]; rfl
theorem depth_ints : ∀ xs : List Int, PyData.depthAll (xs.map .int) ≤ 1
  | [] => by simp [PyData.depthAll]
  | x :: xs => by
    rw [List.map_cons, PyData.depthAll]
    have := depth_ints xs
    simp [PyData.depth]
    omega
theorem shaped_int (i : Int) : SeqAt.shaped (.int i) = true := rfl
theorem shaped_none : SeqAt.shaped .none = true := rfl
theorem shaped_bool (b : Bool) : SeqAt.shaped (.bool b) = true := rfl
theorem shaped_ll (xs : List Int) : SeqAt.shaped (.list (xs.map .int)) = true := by
  have h1 : PyData.canLay0 (.list (xs.map .int)) = true := by rw [PyData.canLay0, canLay_ints]
  have h2 := depth_ints xs
  have h3 : PyData.depth (.list (xs.map .int)) ≤ 64 := by rw [PyData.depth]; omega
  unfold SeqAt.shaped
  rw [h1, decide_eq_true h3]
  rfl
theorem inD_i (t : Int) (xs : List Int) : inD (.int t) (xs.map .int) = decide (t ∈ xs) := by
  unfold inD
  rw [List.any_map, Bool.eq_iff_iff, List.any_eq_true, decide_eq_true_eq]
  constructor
  · rintro ⟨x, hx, e⟩
    rw [Function.comp, eqv_ii, decide_eq_true_eq] at e
    exact e ▸ hx
  · intro h
    exact ⟨t, h, by rw [Function.comp, eqv_ii]; simp⟩
theorem flat_ints (xs : List Int) : (xs.map PyData.int).all flatD = true := by simp [flatD]
theorem map_vi (xs : List Int) : (xs.map PyData.int).map U.v = xs.map fun t => U.v (.int t) := by simp
theorem atI_last {α : Type} {l : List α} {x : α} : atI (l ++ [x]) (-1) = some x := by
  unfold atI ixN
  rw [if_neg (by omega), List.length_append, List.length_singleton, if_pos (by omega)]
  have : (-1 + ((l.length + 1 : Nat) : Int)).toNat = l.length := by omega
  rw [this]
  simp
theorem atI_last' {α : Type} {l : List α} (h : l ≠ []) : atI l (-1) = some (l.getLast h) := by
  have := atI_last (l := l.dropLast) (x := l.getLast h)
  rwa [List.dropLast_concat_getLast] at this
theorem cut_all {α : Type} {l : List α} : l.drop 0 = l := rfl
/-- l[a:] -/
theorem cutD_from (l : List PyData) (a : Nat) : cutD l (some (a : Int)) none = l.drop a := by
  unfold cutD
  rw [HT.sIx_none, HT.sIx_nat, List.take_of_length_le (by rw [List.length_drop]; omega)]
  by_cases h : a ≤ l.length
  · rw [Nat.min_eq_left h]
  · rw [Nat.min_eq_right (by omega), List.drop_of_length_le (by omega), List.drop_of_length_le (by omega)]
/-- l[:b] -/
theorem cutD_to (l : List PyData) (b : Nat) : cutD l none (some (b : Int)) = l.take b := by
  unfold cutD
  rw [HT.sIx_none, HT.sIx_nat, List.drop_zero, Nat.sub_zero]
  by_cases h : b ≤ l.length
  · rw [Nat.min_eq_left h]
  · rw [Nat.min_eq_right (by omega), List.take_of_length_le (by omega), List.take_of_length_le (by omega)]
end Z
namespace Z.P
open PySem PySem.Spec PyProof.Rows L2 Z
local macro_rules | `(tactic| walk_at "ev") => `(tactic| try simp only [dSeq, dAsg, dVar, dC, dOp, dUn, dB, dChain, dAnd, dOr, dNot, dAndV, dOrV, dNotV, dIf, dNil, dCons, dLst, dLstM, dTup, dCB, dNext, dExpr, dRet, dRetN, dFrz, dIfS, dAsgG, dPar2, dPar3, dUnp, dMeth, dCall, dSl, dPart, dNoPart, dRev, dIsN, dNotN, dIsi, dSetIx, dLRg1, dLRg2, aSortedI, aExt2, dGet, dIn, dPut, dDctM0, dDctM1, dDct2, aDictP, nwD, dSortSet, dGet2, sRngD, dStep, dReprL, asDs, aExtend, aIndex, aCount, aCountB, dLRgD, dLRgZ, sZipT, dLZ, aMaxT, aMinT, dFn, dCallV, gIx, unL_lists, dTry, dTryO, rCall, rCallF, xRaise, xRaiseI, aEqNil, endX, dIsx, dIsxT, aCmpD, sRngS, aSortD, dLenSc, dSortSc, dAug, dFor, dWhile, dLc, dLcM, lcUM, dNever, dBreak, dCont, dYes, dPick,
  aAdd, aSub, aDiv, aMod, aPow, aI, aIc, aB, aMul, aNeg, aEq, aNe, aNeX, aBB, aIn, aIx, aLen, aMax, aMin, aAbs, aSum, aAll, aAny, aList, aTuple, aInt, aSorted, aRepr, aAppend, aPop, aPopAt, aReverse, aClear, nw, allD, isNone, sList, sTup, sEnumT, sRng1, sRng2, sEnum, sZip, gN, gN0, gN1, gT, startU, endsD, retD, wipeE, setAll, 
  List.map_cons, List.map_nil, List.length_cons, List.length_nil, List.cons_append, List.nil_append, List.replicate, List.getElem?_cons_zero, List.getElem?_cons_succ, List.set_cons_zero, List.set_cons_succ, Nat.reduceAdd, Nat.reduceSub, Nat.reduceLeDiff, Nat.zero_add, Nat.add_zero, List.take_length, if_true, if_false, decide_true, decide_false, Bool.false_eq_true, Bool.not_true, Bool.not_false, Option.isSome_some, Option.map_some, Option.map_none, Option.bind_some, List.append_nil, true_and, and_true, asI_map, asB_map, shE_i, shE_b, shE_n, shE_s, shE_l, shE_t, asL_r, asD_r, asD_v, asL_v, asQ_v, asQ_s, asS_v, asS_t, asS_s, asQ_r, asS_r])
/-- t may be the next link of ns -/
def alB (ns : List Int) (t : Nat) : Bool := (List.range ns.length).all fun i => !(decide (ns.getD i 0 < (t : Int)) && decide ((t : Int) < (i : Int)))
/-- the targets that may be the next link, in ascending order -/
def tgs (ns : List Int) : List Int := ((List.range ns.length).filter (alB ns)).map fun (t : Nat) => (t : Int)
theorem alB_iff {ns : List Int} {t : Nat} : alB ns t = true ↔ ∀ i : Nat, i < ns.length → ¬ (ns.getD i 0 < (t : Int) ∧ (t : Int) < (i : Int)) := by
  unfold alB
  simp only [List.all_eq_true, List.mem_range, Bool.not_eq_true', Bool.and_eq_false_iff, decide_eq_false_iff_not]
  constructor
  · intro h i hi z
    rcases h i hi with h | h
    · exact h z.1
    · exact h z.2
  · intro h i hi
    have := h i hi
    omega
theorem mem_tgs {ns : List Int} {t : Int} : t ∈ tgs ns ↔ ∃ k : Nat, t = (k : Int) ∧ k < ns.length ∧ alB ns k = true := by
  unfold tgs
  simp only [List.mem_map, List.mem_filter, List.mem_range]
  constructor
  · rintro ⟨k, h, rfl⟩
    exact ⟨k, rfl, h⟩
  · rintro ⟨k, rfl, h⟩
    exact ⟨k, h, rfl⟩
theorem tgs_snoc (p : List Int) (x : Int) : tgs (p ++ [x]) = (tgs p).filter (fun t => decide (t ≤ x)) ++ [(p.length : Int)] := by
  unfold tgs
  rw [List.length_append, List.length_singleton, List.range_succ, List.filter_append, List.map_append]
  have e1 : [p.length].filter (alB (p ++ [x])) = [p.length] := by
    rw [List.filter_cons_of_pos]
    · rfl
    rw [alB_iff]
    intro i hi
    simp at hi
    omega
  rw [e1, List.filter_map]
  congr 1
  rw [List.filter_filter]
  congr 1
  apply List.filter_congr
  intro t ht
  have ht' := List.mem_range.mp ht
  rw [Bool.eq_iff_iff, alB_iff, Bool.and_eq_true, alB_iff]
  simp only [Function.comp, decide_eq_true_eq]
  constructor
  · intro h
    constructor
    · have h1 := h p.length (by simp)
      rw [getD_snoc, if_neg (by omega), if_pos rfl] at h1
      omega
    · intro i hi
      have h1 := h i (by simp; omega)
      rw [getD_snoc, if_pos hi] at h1
      exact h1
  · rintro ⟨h1, h2⟩ i hi
    simp at hi
    rw [getD_snoc]
    by_cases hi2 : i < p.length
    · rw [if_pos hi2]; exact h2 i hi2
    · rw [if_neg hi2, if_pos (by omega)]; omega
theorem tgs_len (ns : List Int) : (tgs ns).length ≤ ns.length := by
  unfold tgs
  rw [List.length_map]
  have := List.length_filter_le (alB ns) (List.range ns.length)
  simpa using this
theorem tgs_one : tgs [0] = [0] := by decide
theorem tgs_one' (x : Int) : tgs [x] = [0] := by
  have := tgs_snoc [] x
  simpa [tgs] using this
theorem tgs_ok {ns : List Int} (h : ns ≠ []) : AlOk ns (tgs ns) := by
  refine ⟨?_, tgs_len ns, ?_, ?_⟩
  · rw [← List.dropLast_concat_getLast h, tgs_snoc]; simp
  · unfold tgs
    rw [List.pairwise_map]
    exact (List.pairwise_lt_range.filter _).imp fun h => by omega
  · intro t ht
    obtain ⟨k, rfl, h1, h2⟩ := mem_tgs.mp ht
    exact ⟨by omega, by omega, alB_iff.mp h2⟩
theorem tgs_last {ns : List Int} (h : ns ≠ []) : atI ((tgs ns).map PyData.int) (-1) = some (.int ((ns.length : Int) - 1)) := by
  rw [← List.dropLast_concat_getLast h, tgs_snoc, List.map_append, List.map_singleton, atI_last, List.length_dropLast]
  have := List.length_pos_iff.mpr h
  rw [List.dropLast_concat_getLast, show ((ns.length - 1 : Nat) : Int) = (ns.length : Int) - 1 by omega]
theorem tgs_head {ns : List Int} (h : FormP ns) : atI ((tgs ns).map PyData.int) 0 = some (.int 0) := by
  have h0 : alB ns 0 = true := by
    rw [alB_iff]
    intro i hi
    have := (h.2.2 i hi).1
    omega
  obtain ⟨n, e⟩ : ∃ n, ns.length = n + 1 := ⟨ns.length - 1, by have := h.1; omega⟩
  unfold tgs
  rw [e, List.range_succ_eq_map, List.filter_cons_of_pos h0, List.map_cons, List.map_cons]
  rw [atI_at (by decide) (by rw [List.length_cons]; omega)]
  rfl
theorem tgs_mem {ns : List Int} {t : Nat} (h : LogP ns) (hl : ns.length < 150) (ht : t < ns.length) : logI (ns ++ [(t : Int)]) = decide ((t : Int) ∈ tgs ns) := by
  rw [Bool.eq_iff_iff, logI_iff, decide_eq_true_eq, mem_tgs]
  constructor
  · rintro ⟨f, nx⟩
    refine ⟨t, rfl, ht, alB_iff.mpr fun i hi => ?_⟩
    have := nx i ns.length hi (by simp)
    rw [getD_snoc, getD_snoc, if_pos hi, if_neg (by omega), if_pos rfl] at this
    exact this
  · rintro ⟨k, e, hk, ha⟩
    have : k = t := by omega
    subst this
    exact logP_snoc h hl (by omega) (by omega) (alB_iff.mp ha)
theorem tgs_last_mem {ns : List Int} (h : ns ≠ []) : (ns.length : Int) - 1 ∈ tgs ns := by
  have := List.length_pos_iff.mpr h
  exact mem_tgs.mpr ⟨ns.length - 1, by omega, by omega, alB_iff.mpr fun i hi => by omega⟩
theorem tgs_zero_mem {ns : List Int} (h : FormP ns) : 0 ∈ tgs ns := by
  have := h.1
  exact mem_tgs.mpr ⟨0, rfl, by omega, alB_iff.mpr fun i hi => by have := (h.2.2 i hi).1; omega⟩
/-- a target that is allowed grows the log -/
theorem logP_grow {ns : List Int} {t : Int} (h : LogP ns) (hl : ns.length < 150) (ht : t ∈ tgs ns) : LogP (ns ++ [t]) := by
  obtain ⟨k, rfl, h1, h2⟩ := mem_tgs.mp ht
  exact logP_snoc h hl (by omega) (by omega) (alB_iff.mp h2)
theorem form_snoc {ns : List Int} {t : Int} (h : FormP ns) (hl : ns.length < 150) (h0 : 0 ≤ t) (h1 : t < ns.length) : FormP (ns ++ [t]) := by
  obtain ⟨f1, f2, f3⟩ := h
  refine ⟨by simp, by simp; omega, fun i hi => ?_⟩
  rw [getD_snoc]
  simp at hi
  by_cases h2 : i < ns.length
  · rw [if_pos h2]; exact f3 i h2
  · rw [if_neg h2, if_pos (by omega)]; omega
theorem firstX_some {ns : List Int} {p : Nat × Nat} (h : firstX ns = some p) : p.1 < p.2 ∧ p.2 < ns.length ∧ xAt ns p.1 p.2 = true := by
  unfold firstX at h
  obtain ⟨i, hi, h2⟩ := List.exists_of_findSome?_eq_some h
  obtain ⟨j, hj, rfl⟩ := Option.map_eq_some_iff.mp h2
  have h3 := List.mem_of_find?_eq_some hj
  have h4 := List.find?_some hj
  have h5 := List.mem_range'_1.mp h3
  have h6 := List.mem_range.mp hi
  exact ⟨by omega, by omega, h4⟩
/-- the crossing that a next link makes -/
theorem firstX_snoc {ns : List Int} {t : Int} {p : Nat × Nat} (h : NoX ns) (e : firstX (ns ++ [t]) = some p) : p.2 = ns.length ∧ p.1 < ns.length ∧ ns.getD p.1 0 < t ∧ t < (p.1 : Int) := by
  obtain ⟨h1, h2, h3⟩ := firstX_some e
  simp at h2
  rw [xAt_iff, getD_snoc, getD_snoc, if_pos (show p.1 < ns.length by omega)] at h3
  by_cases h4 : p.2 < ns.length
  · rw [if_pos h4] at h3
    exact (h p.1 p.2 h1 h4 h3).elim
  · rw [if_neg h4, if_pos (by omega)] at h3
    exact ⟨by omega, by omega, h3⟩
theorem getD_take (ns : List Int) (k i : Nat) : (ns.take k).getD i 0 = if i < k then ns.getD i 0 else 0 := by
  simp only [List.getD_eq_getElem?_getD, List.getElem?_take]
  split <;> simp
theorem logP_take {ns : List Int} {k : Nat} (h : LogP ns) (hk : 1 ≤ k) : LogP (ns.take k) := by
  obtain ⟨⟨f1, f2, f3⟩, nx⟩ := h
  refine ⟨⟨by rw [List.length_take]; omega, by rw [List.length_take]; omega, fun i hi => ?_⟩, fun i j hij hj => ?_⟩
  · rw [List.length_take] at hi
    rw [getD_take, if_pos (by omega)]
    exact f3 i (by omega)
  · rw [List.length_take] at hj
    rw [getD_take, getD_take, if_pos (by omega), if_pos (by omega)]
    exact nx i j hij (by omega)
/-! ### targets_of -/
def sp_targets_of : ASp := fun us m Q => ∃ (u : U) (ns : List Int), us = [u] ∧ asL m u = some (ns.map .int) ∧ ns ≠ [] ∧ ns.length ≤ 1000000 ∧ Q (.v (.list ((tgs ns).map .int))) m
theorem tg_loop {D : AEnds} {u : U} {m : Sto} {ns : List Int} (hz : ns.length ≤ 1000000) : ∀ (n a : Nat) (x2 x3 x4 : Option U), a + 1 + n = ns.length →
    (∀ x2 x3 x4 : Option U, D.nx [some u, some (.v (.list ((tgs ns).map .int))), x2, x3, x4] m) →
    forU (fun _ => True) (gT 2 (gN1 (gN 2) (gN1 (gN 3) gN0))) b1_targets_of D ((List.range' a n).map fun (i : Nat) => U.v (.tuple [.int (i : Int), .int (ns.getD (i + 1) 0)])) [some u, some (.v (.list ((tgs (ns.take (a + 1))).map .int))), x2, x3, x4] m
  | 0, a, x2, x3, x4, e, h => ⟨trivial, by rw [List.take_of_length_le (by omega)]; exact h _ _ _⟩
  | n + 1, a, x2, x3, x4, e, h => by
    rw [List.range'_succ, List.map_cons]
    refine ⟨trivial, ?_⟩
    unfold b1_targets_of
    walk_at "ev"
    simp only [guardOf, map_vi]
    have hl := tgs_len (ns.take (a + 1))
    rw [List.length_take] at hl
    refine lcU_map (fun (t : Int) => U.v (.int t)) (fun t => decide (t ≤ ns.getD (a + 1) 0)) (fun t => .int t) trivial _ _ (by simp; omega) (fun t ht K1 K2 q1 q2 => ?_) ?_
    · walk_at "ev"
      by_cases c : t ≤ ns.getD (a + 1) 0
      · simp only [c, decide_true, if_true] at q1 ⊢
        exact q1 trivial
      · simp only [c, decide_false, Bool.false_eq_true, if_false] at q2 ⊢
        exact q2 trivial
    · rw [List.nil_append]
      walk_at "ev"
      have e2 : ns.take (a + 1 + 1) = ns.take (a + 1) ++ [ns.getD (a + 1) 0] := by
        rw [List.take_succ, List.getD_eq_getElem?_getD, List.getElem?_eq_getElem (by omega)]
        rfl
      have e3 : ((tgs (ns.take (a + 1))).filter fun t => decide (t ≤ ns.getD (a + 1) 0)).map PyData.int ++ [PyData.int ((a : Int) + 1)] = (tgs (ns.take (a + 1 + 1))).map PyData.int := by
        rw [e2, tgs_snoc, List.map_append, List.length_take, Nat.min_eq_left (by omega)]
        rfl
      have hl2 := List.length_filter_le (fun t => decide (t ≤ ns.getD (a + 1) 0)) (tgs (ns.take (a + 1)))
      rw [List.length_map, e3, sizeLine_eq]
      refine ⟨by decide, by omega, ?_⟩
      exact tg_loop hz n (a + 1) _ _ _ (by omega) h
theorem enumU_tail (ns : List Int) : enumU ((ns.map PyData.int).drop 1) = (List.range' 0 (ns.length - 1)).map fun (i : Nat) => U.v (.tuple [.int (i : Int), .int (ns.getD (i + 1) 0)]) := by
  rw [← List.map_drop, enumU_ints, List.length_drop, List.range_eq_range']
  congr 1
  funext i
  simp [List.getD_eq_getElem?_getD, Nat.add_comm]
theorem sem_targets_of (us : List U) (m : Sto) (Q : QA) (h : sp_targets_of us m Q) : g_targets_of (endsD m.length Q) (startU 5 us) m := by
  obtain ⟨u, ns, rfl, hu, hne, hz, q⟩ := h
  have h1 := List.length_pos_iff.mpr hne
  unfold g_targets_of
  walk_at "ev"
  simp only [asQ_of hu, nw]
  walk_at "ev"
  rw [show (some (1 : Int)) = some ((1 : Nat) : Int) from rfl, cutD_from, enumU_tail]
  have e1 : tgs (ns.take (0 + 1)) = [0] := by
    rw [List.take_succ, List.getElem?_eq_getElem (by omega)]
    exact tgs_one' _
  have main := fun D h => tg_loop (D := D) (u := u) (m := m) hz (ns.length - 1) 0 none none none (by omega) h
  rw [e1] at main
  refine ⟨by decide, main _ fun x2 x3 x4 => ?_⟩
  walk_at "ev"
  exact q
def sp_allowed_targets : ASp := fun us m Q => ∃ (u : U) (ns : List Int), us = [u] ∧ asL m u = some (ns.map .int) ∧ LogP ns ∧ Q (.v (.list ((tgs ns).map .int))) m
theorem LogP.ne {ns : List Int} (h : LogP ns) : ns ≠ [] := List.length_pos_iff.mp h.1.1
theorem sem_allowed_targets (us : List U) (m : Sto) (Q : QA) (h : sp_allowed_targets us m Q) : g_allowed_targets sp_need_log sp_targets_of (endsD m.length Q) (startU 1 us) m := by
  obtain ⟨u, ns, rfl, hu, hl, q⟩ := h
  have hz : ns.length ≤ 1000000 := by have := hl.1.2.1; omega
  unfold g_allowed_targets
  walk_at "ev"
  refine ⟨u, ns, rfl, hu, hz, (logI_iff ns).mpr hl, ?_⟩
  walk_at "ev"
  refine ⟨u, ns, rfl, hu, hl.ne, hz, ?_⟩
  walk_at "ev"
  exact q
end Z.P
/-! ZA: how long the repr of data is. -/
namespace Z
open PySem PySem.Spec PyProof.Rows L2
/-- data without dicts, ints of at most B signs, nested at most k deep, of weight at most n -/
structure Shw (B k n : Nat) (d : PyData) : Prop where
  lay : d.canLay0 = true
  shw : d.showable = true
  dep : d.depth ≤ k
  wt : d.weight ≤ n
  sh : PyData.intsShort B d = true
theorem Shw.mono {B k n k' n' : Nat} {d : PyData} (h : Shw B k n d) (h1 : k ≤ k') (h2 : n ≤ n') : Shw B k' n' d := ⟨h.lay, h.shw, Nat.le_trans h.dep h1, Nat.le_trans h.wt h2, h.sh⟩
theorem Shw.none {B : Nat} : Shw B 0 0 .none := ⟨rfl, rfl, by simp [PyData.depth], by simp [PyData.weight], rfl⟩
theorem Shw.bool {B : Nat} (b : Bool) : Shw B 0 0 (.bool b) := ⟨rfl, rfl, by simp [PyData.depth], by simp [PyData.weight], rfl⟩
theorem Shw.str {B : Nat} {x : Str} (h : PyData.strOk x = true) : Shw B 0 x.cps.size (.str x) := ⟨by rw [PyData.canLay0]; exact h, rfl, by simp [PyData.depth], by simp [PyData.weight], rfl⟩
theorem Shw.int {B : Nat} (j : Nat) {i : Int} (h0 : 0 < j) (hB : j + 1 ≤ B) (hj : j ≤ 400) (h : i.natAbs < 10 ^ j) : Shw B 0 (4 * j) (.int i) := by
  have h2 : i.natAbs < 2 ^ (4 * j) := by
    refine Nat.lt_of_lt_of_le h ?_
    rw [Nat.pow_mul]
    exact Nat.pow_le_pow_left (by decide) j
  have h3 := PySem.Flt.log2_lt_of (by omega) h2
  refine ⟨rfl, ?_, by simp [PyData.depth], ?_, ?_⟩
  · rw [PyData.showable, decide_eq_true_eq]; omega
  · rw [PyData.weight]; split <;> omega
  · rw [PyData.intsShort, decide_eq_true_eq]
    have e := int_text_length_le10 h0 h
    show (Str.ofString (toString i)).length ≤ B
    rw [PySem.ofString_length]
    omega
theorem Shw.all {B k n : Nat} : ∀ {xs : List PyData}, (∀ d ∈ xs, Shw B k n d) → PyData.canLayAll0 xs = true ∧ PyData.showableAll xs = true ∧ PyData.depthAll xs ≤ k ∧ PyData.weightAll xs ≤ (n + 1) * xs.length ∧ PyData.intsShortAll B xs = true
  | [], _ => ⟨rfl, rfl, by simp [PyData.depthAll], by simp [PyData.weightAll], rfl⟩
  | x :: xs, h => by
    obtain ⟨h1, h2, h3, h4, h5⟩ := Shw.all (xs := xs) fun d hd => h d (List.mem_cons_of_mem _ hd)
    obtain ⟨g1, g2, g3, g4, g5⟩ := h x List.mem_cons_self
    refine ⟨?_, ?_, ?_, ?_, ?_⟩
    · rw [PyData.canLayAll0, g1, h1]; rfl
    · rw [PyData.showableAll, g2, h2]; rfl
    · rw [PyData.depthAll]; omega
    · rw [PyData.weightAll, List.length_cons, Nat.mul_succ]; omega
    · rw [PyData.intsShortAll, g5, h5]; rfl
theorem Shw.list {B k n L : Nat} {xs : List PyData} (h : ∀ d ∈ xs, Shw B k n d) (hl : xs.length ≤ L) : Shw B (k + 1) ((n + 1) * L) (.list xs) := by
  obtain ⟨h1, h2, h3, h4, h5⟩ := Shw.all h
  have h6 := Nat.mul_le_mul_left (n + 1) hl
  exact ⟨by rw [PyData.canLay0]; exact h1, by rw [PyData.showable]; exact h2, by rw [PyData.depth]; omega, by rw [PyData.weight]; omega, by rw [PyData.intsShort]; exact h5⟩
theorem Shw.tuple {B k n L : Nat} {xs : List PyData} (h : ∀ d ∈ xs, Shw B k n d) (hl : xs.length ≤ L) : Shw B (k + 1) ((n + 1) * L) (.tuple xs) := by
  obtain ⟨h1, h2, h3, h4, h5⟩ := Shw.all h
  have h6 := Nat.mul_le_mul_left (n + 1) hl
  exact ⟨by rw [PyData.canLay0]; exact h1, by rw [PyData.showable]; exact h2, by rw [PyData.depth]; omega, by rw [PyData.weight]; omega, by rw [PyData.intsShort]; exact h5⟩
theorem Shw.shaped {B k n : Nat} {d : PyData} (h : Shw B k n d) (hk : k ≤ 64) : SeqAt.shaped d = true := by
  unfold SeqAt.shaped
  rw [h.lay, decide_eq_true (Nat.le_trans h.dep hk)]
  rfl
theorem Shw.len {B k n : Nat} {d : PyData} (h : Shw B k n d) (hB : 8 ≤ B) : d.shown.length ≤ (B + 2) * n + B :=
  Nat.le_trans (PyData.shown_le B hB d (PyData.leavesShort_of_canLay0 B d h.lay h.sh)) (Nat.add_le_add_right (Nat.mul_le_mul_left _ h.wt) _)
/-- what repr wants of data -/
def ReprOk (d : PyData) : Prop := d.canLay0 = true ∧ d.showable = true ∧ d.depth ≤ 64 ∧ d.shown.length ≤ sizeLine
theorem Shw.ok {B k n : Nat} {d : PyData} (h : Shw B k n d) (hB : 8 ≤ B) (hk : k ≤ 64) (hn : (B + 2) * n + B ≤ 16777216) : ReprOk d :=
  ⟨h.lay, h.shw, Nat.le_trans h.dep hk, by rw [sizeLine_eq]; exact Nat.le_trans (h.len hB) hn⟩
theorem aRepr_of {u : U} {d : PyData} {m : Sto} {Q : QA} (e : asD m u = some d) (h : ReprOk d) (q : Q (.v (.str d.shown)) m) : aRepr [u] m Q := by
  unfold aRepr
  simp only [e]
  exact ⟨h.1, h.2.1, h.2.2.1, h.2.2.2, q⟩
theorem Shw.ints {B : Nat} (j L : Nat) {xs : List Int} (h0 : 0 < j) (hB : j + 1 ≤ B) (hj : j ≤ 400) (hl : xs.length ≤ L) (h : ∀ i ∈ xs, i.natAbs < 10 ^ j) : Shw B 1 ((4 * j + 1) * L) (.list (xs.map .int)) :=
  Shw.list (k := 0) (fun d hd => by
    obtain ⟨i, hi, rfl⟩ := List.mem_map.mp hd
    exact Shw.int j h0 hB hj (h i hi)) (by rw [List.length_map]; exact hl)
theorem eqv_str (x : Str) : PyData.eqv (.str x) (.str x) = true := by
  rw [← eqv_ss]; simp
theorem eqv_str' (x y : Str) : PyData.eqv (.str x) (.str y) = decide (x = y) := by
  rw [← eqv_ss]; simp
theorem eqv_bb (x y : Bool) : PyData.eqv (.bool x) (.bool y) = (x == y) := by cases x <;> cases y <;> decide
theorem eqv_nn : PyData.eqv .none .none = true := rfl
end Z
/-! ZE: is_log of any data. -/
namespace Z.P
open PySem PySem.Spec PyProof.Rows L2 Z
theorem k_NoneType_int : isK "NoneType" "int" = false := by decide
theorem k_NoneType_bool : isK "NoneType" "bool" = false := by decide
theorem k_NoneType_list : isK "NoneType" "list" = false := by decide
theorem k_bool_int : isK "bool" "int" = true := by decide
theorem k_bool_bool : isK "bool" "bool" = true := by decide
theorem k_bool_list : isK "bool" "list" = false := by decide
theorem k_int_int : isK "int" "int" = true := by decide
theorem k_int_bool : isK "int" "bool" = false := by decide
theorem k_int_list : isK "int" "list" = false := by decide
theorem k_str_int : isK "str" "int" = false := by decide
theorem k_str_bool : isK "str" "bool" = false := by decide
theorem k_str_list : isK "str" "list" = false := by decide
theorem k_list_int : isK "list" "int" = false := by decide
theorem k_list_bool : isK "list" "bool" = false := by decide
theorem k_list_list : isK "list" "list" = true := by decide
theorem k_tuple_int : isK "tuple" "int" = false := by decide
theorem k_tuple_bool : isK "tuple" "bool" = false := by decide
theorem k_tuple_list : isK "tuple" "list" = false := by decide
theorem k_dict_int : isK "dict" "int" = false := by decide
theorem k_dict_bool : isK "dict" "bool" = false := by decide
theorem k_dict_list : isK "dict" "list" = false := by decide
local macro_rules | `(tactic| walk_at "ev") => `(tactic| try simp only [dSeq, dAsg, dVar, dC, dOp, dUn, dB, dChain, dAnd, dOr, dNot, dAndV, dOrV, dNotV, dIf, dNil, dCons, dLst, dLstM, dTup, dCB, dNext, dExpr, dRet, dRetN, dFrz, dIfS, dAsgG, dPar2, dPar3, dUnp, dMeth, dCall, dSl, dPart, dNoPart, dRev, dIsN, dNotN, dIsi, dSetIx, dLRg1, dLRg2, aSortedI, aExt2, dGet, dIn, dPut, dDctM0, dDctM1, dDct2, aDictP, nwD, dSortSet, dGet2, sRngD, dStep, dReprL, asDs, aExtend, aIndex, aCount, aCountB, dLRgD, dLRgZ, sZipT, dLZ, aMaxT, aMinT, dFn, dCallV, gIx, unL_lists, dTry, dTryO, rCall, rCallF, xRaise, xRaiseI, aEqNil, endX, dIsx, dIsxT, aCmpD, sRngS, aSortD, dLenSc, dSortSc, dAug, dFor, dWhile, dLc, dLcM, lcUM, dNever, dBreak, dCont, dYes, dPick,
  aAdd, aSub, aDiv, aMod, aPow, aI, aIc, aB, aMul, aNeg, aEq, aNe, aNeX, aBB, aIn, aIx, aLen, aMax, aMin, aAbs, aSum, aAll, aAny, aList, aTuple, aInt, aSorted, aRepr, aAppend, aPop, aPopAt, aReverse, aClear, nw, allD, isNone, sList, sTup, sEnumT, sRng1, sRng2, sEnum, sZip, gN, gN0, gN1, gT, startU, endsD, retD, wipeE, setAll, 
  List.map_cons, List.map_nil, List.length_cons, List.length_nil, List.cons_append, List.nil_append, List.replicate, List.getElem?_cons_zero, List.getElem?_cons_succ, List.set_cons_zero, List.set_cons_succ, Nat.reduceAdd, Nat.reduceSub, Nat.reduceLeDiff, Nat.zero_add, Nat.add_zero, List.take_length, if_true, if_false, decide_true, decide_false, Bool.false_eq_true, Bool.not_true, Bool.not_false, Option.isSome_some, Option.map_some, Option.map_none, Option.bind_some, List.append_nil, true_and, and_true, asI_map, asB_map, shE_i, shE_b, shE_n, shE_s, shE_l, shE_t, asL_r, asD_r, asD_v, asL_v, asQ_v, asQ_s, asS_v, asS_t, asS_s, asQ_r, asS_r])
def logD : PyData → Bool
  | .list l => formL l && (match intsOf l with
    | some ns => (firstX ns).isNone
    | none => false)
  | _ => false
theorem isInt_int {d : PyData} {lo hi : Int} (h : isInt d lo hi = true) : ∃ i, d = .int i := by
  cases d <;> first | exact ⟨_, rfl⟩ | cases h
theorem all_ints : ∀ {l : List PyData}, (∀ d ∈ l, ∃ i, d = PyData.int i) → ∃ ns : List Int, l = ns.map .int
  | [], _ => ⟨[], rfl⟩
  | d :: l, h => by
    obtain ⟨i, rfl⟩ := h d List.mem_cons_self
    obtain ⟨ns, rfl⟩ := all_ints fun e he => h e (List.mem_cons_of_mem _ he)
    exact ⟨i :: ns, rfl⟩
theorem formL_ints {l : List PyData} (h : formL l = true) : ∃ ns : List Int, l = ns.map .int ∧ FormP ns := by
  have : ∃ ns : List Int, l = ns.map .int := by
    unfold formL at h
    simp only [Bool.and_eq_true, List.all_eq_true] at h
    refine all_ints fun d hd => ?_
    obtain ⟨i, hi, e⟩ := List.getElem_of_mem hd
    have := h.2 (d, i) (by rw [List.mem_zipIdx_iff_getElem?, List.getElem?_eq_getElem hi, e])
    exact isInt_int this
  obtain ⟨ns, rfl⟩ := this
  exact ⟨ns, rfl, (formL_iff ns).mp h⟩
theorem logD_ints (ns : List Int) : logD (.list (ns.map .int)) = logI ns := by
  show (formL _ && (match intsOf (ns.map PyData.int) with
    | some ns => (firstX ns).isNone
    | none => false)) = _
  rw [intsOf_map]
  rfl
def sp_is_logD : ASp := fun us m Q => ∃ u d, us = [u] ∧ asD m u = some d ∧ Q (.v (.bool (logD d))) m
theorem sem_is_logD (us : List U) (m : Sto) (Q : QA) (h : sp_is_logD us m Q) : g_is_log sp_have_form sp_least_crossing (endsD m.length Q) (startU 1 us) m := by
  obtain ⟨u, d, rfl, hd, q⟩ := h
  unfold g_is_log
  walk_at "ev"
  refine ⟨u, d, rfl, hd, ?_⟩
  by_cases c : formD d = true
  · simp only [c]
    walk_at "ev"
    cases d with
    | list l =>
      obtain ⟨ns, rfl, hf⟩ := formL_ints c
      rw [logD_ints] at q
      refine ⟨u, ns, rfl, asL_of_D hd, by have := hf.2.1; omega, ?_⟩
      walk_at "ev"
      have e1 : logI ns = isNone (.v (Z.P.pairD (firstX ns))) := by
        unfold logI
        rw [(formL_iff ns).mpr hf]
        cases firstX ns <;> rfl
      rw [e1] at q
      exact q
    | _ => simp [formD] at c
  · have c' : formD d = false := by simpa using c
    simp only [c']
    walk_at "ev"
    have : logD d = false := by
      cases d with
      | list l => simp only [formD] at c'; show (formL l && _) = false; rw [c']; rfl
      | _ => rfl
    rw [this] at q
    exact q
end Z.P
/-! ZQ: how long the repr of data is, dicts too. -/
namespace Z
open PySem PySem.Spec PyProof.Rows L2
/-- data of ints of at most B signs, nested at most k deep, of weight at most n -/
structure Shx (B k n : Nat) (d : PyData) : Prop where
  shw : d.showable = true
  dep : d.depth ≤ k
  wt : d.weight ≤ n
  lv : PyData.leavesShort B d = true
theorem Shw.x {B k n : Nat} {d : PyData} (h : Shw B k n d) : Shx B k n d := ⟨h.shw, h.dep, h.wt, PyData.leavesShort_of_canLay0 B d h.lay h.sh⟩
theorem Shx.mono {B k n k' n' : Nat} {d : PyData} (h : Shx B k n d) (h1 : k ≤ k') (h2 : n ≤ n') : Shx B k' n' d := ⟨h.shw, Nat.le_trans h.dep h1, Nat.le_trans h.wt h2, h.lv⟩
theorem Shx.dict0 {B : Nat} : Shx B 1 0 (.dict []) := ⟨rfl, by simp [PyData.depth, PyData.depthKv], by simp [PyData.weight, PyData.weightKv], rfl⟩
theorem Shx.all {B k n : Nat} : ∀ {xs : List PyData}, (∀ d ∈ xs, Shx B k n d) → PyData.showableAll xs = true ∧ PyData.depthAll xs ≤ k ∧ PyData.weightAll xs ≤ (n + 1) * xs.length ∧ PyData.leavesShortAll B xs = true
  | [], _ => ⟨rfl, by simp [PyData.depthAll], by simp [PyData.weightAll], rfl⟩
  | x :: xs, h => by
    obtain ⟨h2, h3, h4, h5⟩ := Shx.all (xs := xs) fun d hd => h d (List.mem_cons_of_mem _ hd)
    obtain ⟨g2, g3, g4, g5⟩ := h x List.mem_cons_self
    refine ⟨?_, ?_, ?_, ?_⟩
    · rw [PyData.showableAll, g2, h2]; rfl
    · rw [PyData.depthAll]; omega
    · rw [PyData.weightAll, List.length_cons, Nat.mul_succ]; omega
    · rw [PyData.leavesShortAll, g5, h5]; rfl
theorem Shx.list {B k n L : Nat} {xs : List PyData} (h : ∀ d ∈ xs, Shx B k n d) (hl : xs.length ≤ L) : Shx B (k + 1) ((n + 1) * L) (.list xs) := by
  obtain ⟨h2, h3, h4, h5⟩ := Shx.all h
  have h6 := Nat.mul_le_mul_left (n + 1) hl
  exact ⟨by rw [PyData.showable]; exact h2, by rw [PyData.depth]; omega, by rw [PyData.weight]; omega, by rw [PyData.leavesShort]; exact h5⟩
theorem Shx.tuple {B k n L : Nat} {xs : List PyData} (h : ∀ d ∈ xs, Shx B k n d) (hl : xs.length ≤ L) : Shx B (k + 1) ((n + 1) * L) (.tuple xs) := by
  obtain ⟨h2, h3, h4, h5⟩ := Shx.all h
  have h6 := Nat.mul_le_mul_left (n + 1) hl
  exact ⟨by rw [PyData.showable]; exact h2, by rw [PyData.depth]; omega, by rw [PyData.weight]; omega, by rw [PyData.leavesShort]; exact h5⟩
theorem Shx.len {B k n : Nat} {d : PyData} (h : Shx B k n d) (hB : 8 ≤ B) : d.shown.length ≤ (B + 2) * n + B :=
  Nat.le_trans (PyData.shown_le B hB d h.lv) (Nat.add_le_add_right (Nat.mul_le_mul_left _ h.wt) _)
def ReprX (d : PyData) : Prop := d.showable = true ∧ d.depth ≤ 64 ∧ d.shown.length ≤ sizeLine
theorem Shx.ok {B k n : Nat} {d : PyData} (h : Shx B k n d) (hB : 8 ≤ B) (hk : k ≤ 64) (hn : (B + 2) * n + B ≤ 16777216) : ReprX d :=
  ⟨h.shw, Nat.le_trans h.dep hk, by rw [sizeLine_eq]; exact Nat.le_trans (h.len hB) hn⟩
theorem aReprX_of {u : U} {d : PyData} {m : Sto} {Q : QA} (e : asD m u = some d) (h : ReprX d) (q : Q (.v (.str d.shown)) m) : aReprX [u] m Q := by
  unfold aReprX
  simp only [e]
  exact ⟨h.1, h.2.1, h.2.2, q⟩
end Z
/-! XN: the name of the only class of an error (k04, k12, k17); need_log. -/
namespace Z.P
open PySem PySem.Spec PyProof.Rows L2 Z
local macro_rules | `(tactic| walk_at "ev") => `(tactic| try simp only [dSeq, dAsg, dVar, dC, dOp, dUn, dB, dChain, dAnd, dOr, dNot, dAndV, dOrV, dNotV, dIf, dNil, dCons, dLst, dLstM, dTup, dCB, dNext, dExpr, dRet, dRetN, dFrz, dIfS, dAsgG, dPar2, dPar3, dUnp, dMeth, dCall, dSl, dPart, dNoPart, dRev, dIsN, dNotN, dIsi, dSetIx, dLRg1, dLRg2, aSortedI, aExt2, dGet, dIn, dPut, dDctM0, dDctM1, dDct2, aDictP, nwD, dSortSet, dGet2, sRngD, dStep, dReprL, asDs, aExtend, aIndex, aCount, aCountB, dLRgD, dLRgZ, sZipT, dLZ, aMaxT, aMinT, dFn, dCallV, gIx, unL_lists, dTry, dTryO, rCall, rCallF, xRaise, xRaiseI, aEqNil, endX, dIsx, dIsxT, aCmpD, sRngS, aSortD, dLenSc, dSortSc, dAug, dFor, dWhile, dLc, dLcM, lcUM, dNever, dBreak, dCont, dYes, dPick,
  aAdd, aSub, aDiv, aMod, aPow, aI, aIc, aB, aMul, aNeg, aEq, aNe, aNeX, aBB, aIn, aIx, aLen, aMax, aMin, aAbs, aSum, aAll, aAny, aList, aTuple, aInt, aSorted, aRepr, aAppend, aPop, aPopAt, aReverse, aClear, nw, allD, isNone, sList, sTup, sEnumT, sRng1, sRng2, sEnum, sZip, gN, gN0, gN1, gT, startU, endsD, retD, wipeE, setAll, 
  List.map_cons, List.map_nil, List.length_cons, List.length_nil, List.cons_append, List.nil_append, List.replicate, List.getElem?_cons_zero, List.getElem?_cons_succ, List.set_cons_zero, List.set_cons_succ, Nat.reduceAdd, Nat.reduceSub, Nat.reduceLeDiff, Nat.zero_add, Nat.add_zero, List.take_length, if_true, if_false, decide_true, decide_false, Bool.false_eq_true, Bool.not_true, Bool.not_false, Option.isSome_some, Option.map_some, Option.map_none, Option.bind_some, List.append_nil, true_and, and_true, asI_map, asB_map, shE_i, shE_b, shE_n, shE_s, shE_l, shE_t, asL_r, asD_r, asD_v, asL_v, asQ_v, asQ_s, asS_v, asS_t, asS_s, asQ_r, asS_r])
def rowK (w : Str) (b : Bool) : PyData := .tuple [.str w, .bool b]
theorem rowK_lc {E : En} {Q : QA} {m : Sto} {i j : Nat} (hE : ∀ (a b : U), ((E.set i (some a)).set j (some b))[j]? = some (some b) ∧ ((E.set i (some a)).set j (some b))[i]? = some (some a)) (l : List (Str × Bool)) (hl : l.length ≤ 100) (q : Q (.v (.list ((l.filter fun p => p.2).map fun p => PyData.str p.1))) m) :
    lcU (fun _ => True) (gT 2 (gN1 (gN i) (gN1 (gN j) gN0))) (dB (dVar j)) (dVar i) E Q (l.map fun p => U.v (rowK p.1 p.2)) [] m := by
  refine lcU_map (gd := fun _ => True) (fun p => U.v (rowK p.1 p.2)) (fun p => p.2) (fun p => PyData.str p.1) trivial l [] (by simp; omega) (fun p hp K1 K2 q1 q2 => ?_) (by rw [List.nil_append]; exact q)
  unfold rowK
  walk_at "ev"
  obtain ⟨h4, h3⟩ := hE (.v (.str p.1)) (.v (.bool p.2))
  simp only [h4, h3]
  cases c : p.2 with
  | true =>
    simp only [if_true]
    exact q1 c
  | false =>
    simp only [Bool.false_eq_true, if_false]
    exact q2 c
def Kind4 (nm : Str) : Prop := nm = "InvalidLog" ∨ nm = "InvalidEntry" ∨ nm = "InvalidChain" ∨ nm = "InvalidNumber"
def sp_kind4 : ASp := fun us m Q => ∃ (nm : Str) (pl : List PyData), us = [.o (.exc nm pl)] ∧ Kind4 nm ∧ Q (.v (.str nm)) m
theorem sem_law_kind (us : List U) (m : Sto) (Q : QA) (h : sp_kind4 us m Q) : g_law_kind (endsD m.length Q) (startU 6 us) m := by
  obtain ⟨nm, pl, rfl, hn, q⟩ := h
  unfold g_law_kind
  have hm : nm ∈ (["InvalidLog", "InvalidEntry", "InvalidTarget", "InvalidChain", "InvalidNumber", "InvalidSize", "InvalidKnown", "InvalidPrices", "InvalidBase", "InvalidTag", "InvalidText", "InvalidCommand", "Different", "NothingToUndo"] : List Str) := by rcases hn with rfl | rfl | rfl | rfl <;> decide +kernel
  have o1 : (["InvalidBase", "InvalidChange", "InvalidCommand", "InvalidPrices", "InvalidTag", "InvalidTarget"] : List Str).any (subNm nm) = false := by rcases hn with rfl | rfl | rfl | rfl <;> decide +kernel
  have o2 : (["InvalidText", "NothingToUndo"] : List Str).any (subNm nm) = false := by rcases hn with rfl | rfl | rfl | rfl <;> decide +kernel
  have e1 : subNm nm "ValueError" = true := by unfold subNm; simp
  walk_at "ev"
  repeat first | refine ⟨hm, ?_⟩ | refine ⟨by decide, ?_⟩
  simp only [o1]
  walk_at "ev"
  try refine ⟨hm, ?_⟩
  simp only [o2]
  obtain ⟨l, hl, hf⟩ : ∃ l : List (Str × Bool), l = ([("InvalidLog", subNm nm "InvalidLog"), ("InvalidEntry", subNm nm "InvalidEntry"), ("InvalidChain", subNm nm "InvalidChain"), ("InvalidNumber", subNm nm "InvalidNumber"), ("InvalidSize", subNm nm "InvalidSize"), ("InvalidKnown", subNm nm "InvalidKnown"), ("Crossing", subNm nm "Crossing"), ("Different", subNm nm "Different")] : List (Str × Bool)) ∧ (l.filter fun p => p.2).map (fun p => p.1) = [nm] :=
    ⟨_, rfl, by rcases hn with rfl | rfl | rfl | rfl <;> decide +kernel⟩
  have hf2 : ((l.filter fun p => p.2).map fun p => PyData.str p.1) = [.str nm] := by
    have := congrArg (List.map PyData.str) hf
    rw [List.map_map] at this
    exact this
  have h8 : l.length = 8 := by rw [hl]; rfl
  have key := fun E Q m hE q => rowK_lc (E := E) (Q := Q) (m := m) (i := 4) (j := 5) hE l (by omega) q
  rw [hf2] at key
  rw [hl] at key
  simp only [List.map_cons, List.map_nil, rowK] at key
  refine key _ _ _ (fun a b => ⟨rfl, rfl⟩) ?_
  walk_at "ev"
  have at0 : ∀ x : PyData, atI [x] 0 = some x := fun _ => rfl
  simp only [eqv_ii, e1, at0]
  walk_at "ev"
  exact ⟨hm, q⟩
def spx_need_logN : AXp := fun us m Q X => ∃ u d, us = [u] ∧ asD m u = some d ∧ (if logD d = true then Q (.v .none) m else X "InvalidLog" [] m)
theorem semx_need_logN (us : List U) (m : Sto) (Q : QA) (X : XQ) (h : spx_need_logN us m Q X) : x_need_log sp_is_logD (endX m.length X) (endsD m.length Q) (startU 1 us) m := by
  obtain ⟨u, d, rfl, hd, q⟩ := h
  unfold x_need_log
  walk_at "ev"
  refine ⟨u, d, rfl, hd, ?_⟩
  cases c : logD d with
  | true =>
    rw [c] at q
    simp only [if_true] at q
    walk_at "ev"
    exact q
  | false =>
    rw [c] at q
    simp only [Bool.false_eq_true, if_false] at q
    walk_at "ev"
    exact q
theorem logD_isN {d : PyData} (h : logD d = true) : ∃ ns : List Int, d = .list (ns.map .int) ∧ LogP ns := by
  cases d <;> simp only [logD, Bool.false_eq_true, Bool.and_eq_true] at h
  obtain ⟨ns, rfl, hf⟩ := formL_ints h.1
  refine ⟨ns, rfl, (logI_iff ns).mp ?_⟩
  rw [← logD_ints]
  simp only [logD, Bool.and_eq_true]
  exact h
theorem logD_form {d : PyData} (h : formD d = false) : logD d = false := by
  cases c : logD d with
  | false => rfl
  | true =>
    obtain ⟨ns, rfl, hn⟩ := logD_isN c
    rw [show formD (.list (ns.map .int)) = formL (ns.map .int) from rfl, (formL_iff ns).mpr hn.1] at h
    cases h
end Z.P
/-! ZB: what the laws of links share. -/
namespace Z.P
open PySem PySem.Spec PyProof.Rows L2 Z
local macro_rules | `(tactic| walk_at "ev") => `(tactic| try simp only [dSeq, dAsg, dVar, dC, dOp, dUn, dB, dChain, dAnd, dOr, dNot, dAndV, dOrV, dNotV, dIf, dNil, dCons, dLst, dLstM, dTup, dCB, dNext, dExpr, dRet, dRetN, dFrz, dIfS, dAsgG, dPar2, dPar3, dUnp, dMeth, dCall, dSl, dPart, dNoPart, dRev, dIsN, dNotN, dIsi, dSetIx, dLRg1, dLRg2, aSortedI, aExt2, dGet, dIn, dPut, dDctM0, dDctM1, dDct2, aDictP, nwD, dSortSet, dGet2, sRngD, dStep, dReprL, asDs, aExtend, aIndex, aCount, aCountB, dLRgD, dLRgZ, sZipT, dLZ, aMaxT, aMinT, dFn, dCallV, gIx, unL_lists, dTry, dTryO, rCall, rCallF, xRaise, xRaiseI, aEqNil, endX, dIsx, dIsxT, aCmpD, sRngS, aSortD, dLenSc, dSortSc, dAug, dFor, dWhile, dLc, dLcM, lcUM, dNever, dBreak, dCont, dYes, dPick,
  aAdd, aSub, aDiv, aMod, aPow, aI, aIc, aB, aMul, aNeg, aEq, aNe, aNeX, aBB, aIn, aIx, aLen, aMax, aMin, aAbs, aSum, aAll, aAny, aList, aTuple, aInt, aSorted, aRepr, aAppend, aPop, aPopAt, aReverse, aClear, nw, allD, isNone, sList, sTup, sEnumT, sRng1, sRng2, sEnum, sZip, gN, gN0, gN1, gT, startU, endsD, retD, wipeE, setAll, 
  List.map_cons, List.map_nil, List.length_cons, List.length_nil, List.cons_append, List.nil_append, List.replicate, List.getElem?_cons_zero, List.getElem?_cons_succ, List.set_cons_zero, List.set_cons_succ, Nat.reduceAdd, Nat.reduceSub, Nat.reduceLeDiff, Nat.zero_add, Nat.add_zero, List.take_length, if_true, if_false, decide_true, decide_false, Bool.false_eq_true, Bool.not_true, Bool.not_false, Option.isSome_some, Option.map_some, Option.map_none, Option.bind_some, List.append_nil, true_and, and_true, asI_map, asB_map, shE_i, shE_b, shE_n, shE_s, shE_l, shE_t, asL_r, asD_r, asD_v, asL_v, asQ_v, asQ_s, asS_v, asS_t, asS_s, asQ_r, asS_r])
/-- a log as a new cell -/
def sp_law_log_4 : ASp := fun us m Q => ∃ (k T : Nat) (size : Int), us = [.r k, .v (.int size)] ∧ Vt k T m ∧ T < 100000000000 ∧ 1 ≤ size ∧ size ≤ 150 ∧
  ∀ (ns : List Int) (m' : Sto), LogP ns → (ns.length : Int) = size → m'.length = m.length → Fx k m.length m m' → Vt k (T + 2000) m' → Q (.r m.length) (m' ++ [.lst (ns.map .int)])
theorem sem_law_log_4 (us : List U) (m : Sto) (Q : QA) (h : sp_law_log_4 us m Q) : g_law_log_4 sp_law_drip (endsD m.length Q) (startU 9 us) m := by
  obtain ⟨k, T, size, rfl, hV, hT, h1, h2, q⟩ := h
  have hk := hV.lt
  unfold g_law_log_4
  walk_at "ev"
  refine ⟨by decide, by decide, k, T, 6, rfl, hV.app, by omega, ⟨by omega, .inl (by omega)⟩, fun way m1 w0 w6 gl gF hV1 => ?_⟩
  walk_at "ev"
  refine ⟨by omega, ?_⟩
  rw [show (1 : Int) = ((1 : Nat) : Int) from rfl, rngU_nat]
  have hfx : Fx k m.length m m1 := ((Fx.refl (Nat.le_refl _)).app (l := [.lst [.int 0]])).trans (gF.less (by simp))
  have hl1 : m1.length = m.length + 1 := by rw [gl]; simp
  refine log_loop (f := m.length) (m0 := m) rfl way w0 w6 (size - 1).toNat 1 [0] [0] (T + 1) m1 _ _ _ _ rfl (by omega) logP_one alOk_one ?_ hV1 (by omega) hfx hk ?_
  · rw [gF.2.2 m.length (by simp) (by omega), List.getElem?_append_right (Nat.le_refl _)]
    simp
  · intro ns' m' al' x5 x6 x7 x8 hL hlen hm' hV' hF'
    walk_at "ev"
    rw [if_neg (by omega)]
    simp only [hm']
    refine q ns' _ hL (by omega) ?_ ?_ ?_
    · rw [List.length_take]
      have := hF'.2.1
      omega
    · exact hF'.take
    · exact (hV'.mono (by omega)).take hk
/-- crossings sought from entry 1 on -/
def firstX1 (ns : List Int) : Option (Nat × Nat) := (List.range' 1 (ns.length - 1)).findSome? fun i => ((List.range' (i + 1) (ns.length - (i + 1))).find? fun j => xAt ns i j).map fun j => (i, j)
theorem firstX1_eq {ns : List Int} (h : ∀ j : Nat, j < ns.length → 0 ≤ ns.getD j 0) : firstX1 ns = firstX ns := by
  unfold firstX1 firstX
  cases e : ns.length with
  | zero => rfl
  | succ n =>
    rw [List.range_eq_range', List.range'_succ, List.findSome?_cons]
    have e0 : ((List.range' (0 + 1) (n + 1 - (0 + 1))).find? fun j => xAt ns 0 j) = none := by
      rw [List.find?_eq_none]
      intro j hj hx
      have h1 := List.mem_range'_1.mp hj
      have h2 := (xAt_iff ns 0 j).mp hx
      have := h j (by omega)
      omega
    rw [e0, Option.map_none]
    rfl
def sp_law_crossing : ASp := fun us m Q => ∃ u ns, us = [u] ∧ asL m u = some (ns.map .int) ∧ ns.length ≤ 1000000 ∧ Q (.v (Z.P.pairD (firstX1 ns))) m
theorem lx_inner {u : U} {m : Sto} {ns : List Int} (hu : asL m u = some (ns.map .int)) (D : AEnds) (i : Nat) (hi : i < ns.length) : ∀ (js : List Nat) (x : Option U), (∀ j ∈ js, j < ns.length) →
    (match js.find? fun j => xAt ns i j with
      | some j => D.rt (.v (.tuple [.int i, .int j])) m
      | none => ∀ y, D.nx [some u, some (.v (.int i)), y] m) →
    forU (fun _ => True) (gN 2) b1_law_crossing D (js.map fun (j : Nat) => U.v (.int (j : Int))) [some u, some (.v (.int i)), x] m
  | [], x, _, h => ⟨trivial, h x⟩
  | j :: js, x, hj, h => by
    refine ⟨trivial, ?_⟩
    have h1 := hj j List.mem_cons_self
    unfold b1_law_crossing
    walk_at "ev"
    simp only [asS_of hu, atI_ints h1, atI_ints hi]
    rw [List.find?_cons] at h
    by_cases c1 : ns.getD i 0 < ns.getD j 0
    · by_cases c2 : ns.getD j 0 < (i : Int)
      · have c : xAt ns i j = true := by unfold xAt; rw [decide_eq_true c1, decide_eq_true c2]; rfl
        simp only [c] at h
        simp only [c1, c2, decide_true, if_true]
        walk_at "ev"
        refine ⟨by rw [sizeLine_eq]; omega, h⟩
      · have c : xAt ns i j = false := by unfold xAt; rw [decide_eq_false c2, Bool.and_false]
        simp only [c] at h
        simp only [c1, c2, decide_true, decide_false, if_true, Bool.false_eq_true, if_false]
        exact lx_inner hu D i hi js _ (fun k hk => hj k (List.mem_cons_of_mem _ hk)) h
    · have c : xAt ns i j = false := by unfold xAt; rw [decide_eq_false c1, Bool.false_and]
      simp only [c] at h
      simp only [c1, decide_false, Bool.false_eq_true, if_false]
      exact lx_inner hu D i hi js _ (fun k hk => hj k (List.mem_cons_of_mem _ hk)) h
theorem lx_outer {u : U} {m : Sto} {ns : List Int} (hu : asL m u = some (ns.map .int)) (hz : ns.length ≤ 1000000) (D : AEnds) : ∀ (is : List Nat) (x y : Option U), (∀ j ∈ is, j < ns.length) →
    (match is.findSome? fun i => ((List.range' (i + 1) (ns.length - (i + 1))).find? fun j => xAt ns i j).map fun j => (i, j) with
      | some p => D.rt (.v (.tuple [.int p.1, .int p.2])) m
      | none => ∀ x y, D.nx [some u, x, y] m) →
    forU (fun _ => True) (gN 1) b2_law_crossing D (is.map fun (i : Nat) => U.v (.int (i : Int))) [some u, x, y] m
  | [], x, y, _, h => ⟨trivial, h x y⟩
  | i :: is, x, y, hj, h => by
    refine ⟨trivial, ?_⟩
    have h1 := hj i List.mem_cons_self
    unfold b2_law_crossing
    walk_at "ev"
    simp only [asS_of hu, List.length_map]
    refine ⟨by omega, ?_⟩
    rw [show ((i : Int) + 1) = ((i + 1 : Nat) : Int) by omega, rngU_nat, show ((ns.length : Int) - ((i + 1 : Nat) : Int)).toNat = ns.length - (i + 1) by omega]
    refine lx_inner hu _ i h1 _ _ (fun j hj => ?_) ?_
    · have := List.mem_range'.mp hj
      omega
    · rw [List.findSome?_cons] at h
      cases q : (List.range' (i + 1) (ns.length - (i + 1))).find? fun j => xAt ns i j with
      | some j =>
        simp only [q, Option.map_some] at h ⊢
        exact h
      | none =>
        simp only [q, Option.map_none] at h ⊢
        exact fun y' => lx_outer hu hz D is _ _ (fun k hk => hj k (List.mem_cons_of_mem _ hk)) h
theorem sem_law_crossing (us : List U) (m : Sto) (Q : QA) (h : sp_law_crossing us m Q) : g_law_crossing (endsD m.length Q) (startU 3 us) m := by
  obtain ⟨u, ns, rfl, hu, hz, q⟩ := h
  unfold g_law_crossing
  walk_at "ev"
  simp only [asS_of hu, List.length_map]
  refine ⟨by omega, ?_⟩
  rw [show rngU 1 ((ns.length : Int) - 1).toNat = _ from rngU_nat 1 _, show ((ns.length : Int) - 1).toNat = ns.length - 1 by omega]
  refine lx_outer hu hz _ _ _ _ (fun j hj => by have := List.mem_range'_1.mp hj; omega) ?_
  unfold firstX1 at q
  split
  · rename_i p hp
    rw [hp] at q
    walk_at "ev"
    exact q
  · rename_i hp
    rw [hp] at q
    intro x y
    walk_at "ev"
    exact q
/-- [drip(vat, entry) for entry in range(a, a + n)] -/
theorem lc_drips {E : En} {s v V : Nat} (hv : E[v]? = some (some (.r V))) (hs : s < E.length) (hsv : s ≠ v) {Q : QA} : ∀ (n a : Nat) (acc : List Int) (T : Nat) (m : Sto), 1 ≤ a → a + n ≤ 1000 → acc.length + n ≤ 100000 → Vt V T m → T + n < 1000000000000 →
    (∀ (ds : List Int) (m' : Sto), ds.length = n → (∀ i : Nat, i < n → 0 ≤ ds.getD i 0 ∧ ds.getD i 0 < (a : Int) + i) → m'.length = m.length → Fx V m.length m m' → Vt V (T + n) m' → Q (.v (.list ((acc ++ ds).map .int))) m') →
    lcU (fun _ => True) (gN s) dYes (dCall sp_law_drip (dCons (dVar v) (dCons (dVar s) dNil))) E Q ((List.range' a n).map fun (j : Nat) => U.v (.int (j : Int))) (acc.map .int) m
  | 0, a, acc, T, m, _, _, _, hV, _, q => ⟨trivial, by have := q [] m rfl (by simp) rfl (Fx.refl (Nat.le_refl _)) hV; simpa using this⟩
  | n + 1, a, acc, T, m, h1, h2, h3, hV, hT, q => by
    rw [List.range'_succ, List.map_cons]
    refine ⟨trivial, ?_⟩
    have e1 : (E.set s (some (.v (.int (a : Int)))))[v]? = some (some (.r V)) := by rw [List.getElem?_set_ne hsv]; exact hv
    have e2 : (E.set s (some (.v (.int (a : Int)))))[s]? = some (some (.v (.int (a : Int)))) := List.getElem?_set_self hs
    simp only [gN, dYes, if_true, dCall, dCons, dVar, dNil, e1, e2]
    refine ⟨V, T, a, rfl, hV, by omega, ⟨by omega, .inl (by omega)⟩, fun r m1 g1 g2 gl gF hV1 => ⟨by rw [List.length_map, sizeLine_eq]; omega, ?_⟩⟩
    have e3 : acc.map PyData.int ++ [PyData.int r] = (acc ++ [r]).map .int := by simp
    rw [e3]
    refine lc_drips hv hs hsv n (a + 1) (acc ++ [r]) (T + 1) m1 (by omega) (by omega) (by simp; omega) hV1 (by omega) fun ds m2 d1 d2 dl dF dV => ?_
    have := q (r :: ds) m2 (by simp [d1]) (fun i hi => ?_) (by omega) (gF.trans (by rw [← gl]; exact dF)) (dV.mono (by omega))
    · rw [List.append_assoc]; exact this
    · cases i with
      | zero => simp only [List.getD_cons_zero]; omega
      | succ i =>
        rw [List.getD_cons_succ]
        have := d2 i (by omega)
        omega
/-- 0 and draws below their entries -/
theorem form_draws {ds : List Int} (hl : ds.length < 150) (h : ∀ i : Nat, i < ds.length → 0 ≤ ds.getD i 0 ∧ ds.getD i 0 < (1 : Int) + i) : FormP (0 :: ds) := by
  refine ⟨by simp, by simp; omega, fun i hi => ?_⟩
  cases i with
  | zero => exact ⟨by simp, by simp; omega⟩
  | succ i =>
    rw [List.getD_cons_succ]
    simp at hi
    have := h i hi
    omega
theorem form_set {ns : List Int} {i : Nat} {t : Int} (h : FormP ns) (h0 : 0 ≤ t) (h1 : t ≤ max 0 ((i : Int) - 1)) : FormP (ns.set i t) := by
  obtain ⟨f1, f2, f3⟩ := h
  refine ⟨by rw [List.length_set]; exact f1, by rw [List.length_set]; exact f2, fun j hj => ?_⟩
  rw [List.length_set] at hj
  simp only [List.getD_eq_getElem?_getD]
  by_cases e : i = j
  · subst e
    rw [List.getElem?_set_self hj]
    exact ⟨h0, h1⟩
  · rw [List.getElem?_set_ne e]
    have := f3 j hj
    simpa [List.getD_eq_getElem?_getD] using this
theorem form_mem {ns : List Int} (h : FormP ns) {i : Int} (hi : i ∈ ns) : 0 ≤ i ∧ i ≤ 150 := by
  obtain ⟨j, hj, rfl⟩ := List.getElem_of_mem hi
  have := h.2.2 j hj
  rw [List.getD_eq_getElem?_getD, List.getElem?_eq_getElem hj] at this
  have := h.2.1
  simp at *
  omega
theorem form_nonneg {ns : List Int} (h : FormP ns) (j : Nat) (hj : j < ns.length) : 0 ≤ ns.getD j 0 := (h.2.2 j hj).1
theorem form_repr {ns : List Int} (h : FormP ns) : Shw 8 1 2000 (.list (ns.map .int)) := by
  have e : (10 : Nat) ^ 3 = 1000 := by decide
  exact (Shw.ints (B := 8) 3 150 (by decide) (by decide) (by decide) h.2.1 fun i hi => by
    have := form_mem h hi
    omega).mono (Nat.le_refl _) (by omega)
theorem pair_repr {o : Option (Nat × Nat)} (h : ∀ p, o = some p → p.1 < 1000 ∧ p.2 < 1000) : Shw 8 1 26 (Z.P.pairD o) := by
  cases o with
  | none => exact Shw.none.mono (by omega) (by omega)
  | some p =>
    obtain ⟨h1, h2⟩ := h p rfl
    have e : (10 : Nat) ^ 3 = 1000 := by decide
    refine Shw.tuple (k := 0) (n := 12) (L := 2) (fun d hd => ?_) (by simp)
    simp only [List.mem_cons, List.not_mem_nil, or_false] at hd
    rcases hd with rfl | rfl <;> exact Shw.int 3 (by decide) (by decide) (by decide) (by omega)
end Z.P
/-! ZF: chains; what the laws of chains share. -/
namespace Z.P
open PySem PySem.Spec PyProof.Rows L2 Z
local macro_rules | `(tactic| walk_at "ev") => `(tactic| try simp only [dSeq, dAsg, dVar, dC, dOp, dUn, dB, dChain, dAnd, dOr, dNot, dAndV, dOrV, dNotV, dIf, dNil, dCons, dLst, dLstM, dTup, dCB, dNext, dExpr, dRet, dRetN, dFrz, dIfS, dAsgG, dPar2, dPar3, dUnp, dMeth, dCall, dSl, dPart, dNoPart, dRev, dIsN, dNotN, dIsi, dSetIx, dLRg1, dLRg2, aSortedI, aExt2, dGet, dIn, dPut, dDctM0, dDctM1, dDct2, aDictP, nwD, dSortSet, dGet2, sRngD, dStep, dReprL, asDs, aExtend, aIndex, aCount, aCountB, dLRgD, dLRgZ, sZipT, dLZ, aMaxT, aMinT, dFn, dCallV, gIx, unL_lists, dTry, dTryO, rCall, rCallF, xRaise, xRaiseI, aEqNil, endX, dIsx, dIsxT, aCmpD, sRngS, aSortD, dLenSc, dSortSc, dAug, dFor, dWhile, dLc, dLcM, lcUM, dNever, dBreak, dCont, dYes, dPick,
  aAdd, aSub, aDiv, aMod, aPow, aI, aIc, aB, aMul, aNeg, aEq, aNe, aNeX, aBB, aIn, aIx, aLen, aMax, aMin, aAbs, aSum, aAll, aAny, aList, aTuple, aInt, aSorted, aRepr, aAppend, aPop, aPopAt, aReverse, aClear, nw, allD, isNone, sList, sTup, sEnumT, sRng1, sRng2, sEnum, sZip, gN, gN0, gN1, gT, startU, endsD, retD, wipeE, setAll, 
  List.map_cons, List.map_nil, List.length_cons, List.length_nil, List.cons_append, List.nil_append, List.replicate, List.getElem?_cons_zero, List.getElem?_cons_succ, List.set_cons_zero, List.set_cons_succ, Nat.reduceAdd, Nat.reduceSub, Nat.reduceLeDiff, Nat.zero_add, Nat.add_zero, List.take_length, if_true, if_false, decide_true, decide_false, Bool.false_eq_true, Bool.not_true, Bool.not_false, Option.isSome_some, Option.map_some, Option.map_none, Option.bind_some, List.append_nil, true_and, and_true, asI_map, asB_map, shE_i, shE_b, shE_n, shE_s, shE_l, shE_t, asL_r, asD_r, asD_v, asL_v, asQ_v, asQ_s, asS_v, asS_t, asS_s, asQ_r, asS_r])
/-! ### ranges and chains that are drawn -/
def sp_law_range : ASp := fun us m Q => ∃ k T size : Nat, us = [.r k, .v (.int size)] ∧ 1 ≤ size ∧ size ≤ 150 ∧ Vt k T m ∧ T < 1000000000 ∧
  ∀ (start stop : Nat) (m' : Sto), stop ≤ start → start < size → m'.length = m.length → Fx k m.length m m' → Vt k (T + 4) m' → Q (.v (.tuple [.int start, .int stop])) m'
theorem sem_law_range (us : List U) (m : Sto) (Q : QA) (h : sp_law_range us m Q) : g_law_range sp_law_drip (endsD m.length Q) (startU 3 us) m := by
  obtain ⟨k, T, size, rfl, h1, h2, hV, hT, q⟩ := h
  unfold g_law_range
  walk_at "ev"
  refine ⟨k, T, _, rfl, hV, by omega, ⟨by omega, .inl (by omega)⟩, fun r1 m1 g1 g2 gl gF hV1 => ?_⟩
  walk_at "ev"
  refine ⟨by decide, k, T + 1, _, rfl, hV1, by omega, ⟨by decide, .inl (by decide)⟩, fun r2 m2 g3 g4 gl2 gF2 hV2 => ?_⟩
  obtain ⟨s, c1, _, c3⟩ := atI_exI (l := [(size : Int) - 1, r1]) g3 (by simpa using g4)
  have c1' : atI [PyData.int ((size : Int) - 1), PyData.int r1] r2 = some (.int s) := c1
  simp only [c1']
  walk_at "ev"
  have hs : 0 ≤ s ∧ s < size := by
    simp only [List.mem_cons, List.not_mem_nil, or_false] at c3
    rcases c3 with e | e <;> rw [e] <;> omega
  refine ⟨k, T + 2, _, rfl, hV2, by omega, ⟨by omega, .inl (by omega)⟩, fun r3 m3 g5 g6 gl3 gF3 hV3 => ?_⟩
  walk_at "ev"
  refine ⟨by decide, k, T + 3, _, rfl, hV3, by omega, ⟨by decide, .inl (by decide)⟩, fun r4 m4 g7 g8 gl4 gF4 hV4 => ?_⟩
  obtain ⟨s2, d1, _, d3⟩ := atI_exI (l := [0, r3, if s - 1 > 0 then s - 1 else 0]) g7 (by simpa using g8)
  have d1' : atI [PyData.int 0, PyData.int r3, PyData.int (if s - 1 > 0 then s - 1 else 0)] r4 = some (.int s2) := d1
  walk_at "ev"
  simp only [d1']
  walk_at "ev"
  have hs2 : 0 ≤ s2 ∧ s2 ≤ s := by
    simp only [List.mem_cons, List.not_mem_nil, or_false] at d3
    rcases d3 with e | e | e <;> rw [e] <;> (try split) <;> omega
  have := q s.toNat s2.toNat (m4.take m.length) (by omega) (by omega) (by rw [List.length_take]; omega) (((gF.trans (gF2.less (by omega))).trans ((gF3.less (by omega)).trans (gF4.less (by omega)))).take) ((hV4.mono (by omega)).take hV.lt)
  rw [Int.toNat_of_nonneg hs.1, Int.toNat_of_nonneg hs2.1] at this
  exact ⟨by decide, this⟩
/-- one step of a chain -/
def stepB (ns : List Int) (x y : Int) : Bool := decide (y < x) && (decide (y = x - 1) || decide (y = ns.getD x.toNat 0))
def stepsB (ns : List Int) : List Int → Bool
  | x :: y :: r => stepB ns x y && stepsB ns (y :: r)
  | _ => true
theorem stepsB_snoc (ns : List Int) (x y : Int) : ∀ l : List Int, stepsB ns (l ++ [x]) = true → stepB ns x y = true → stepsB ns (l ++ [x] ++ [y]) = true
  | [], _, h => by simp [stepsB, h]
  | [a], h1, h => by
    simp only [List.singleton_append, stepsB, Bool.and_true] at h1
    simp [stepsB, h, h1]
  | a :: b :: l, h1, h => by
    simp only [List.cons_append, stepsB, Bool.and_eq_true] at h1 ⊢
    exact ⟨h1.1, stepsB_snoc ns x y (b :: l) h1.2 h⟩
def sp_law_down : ASp := fun us m Q => ∃ (k T start stop : Nat) (ns : List Int), us = [.r k, .v (.list (ns.map .int)), .v (.int start), .v (.int stop)] ∧ FormP ns ∧ stop ≤ start ∧ start < ns.length ∧ Vt k T m ∧ T < 1000000000 ∧
  ∀ (ch : List Int) (m' : Sto), (∃ r, ch = (start : Int) :: r) → (∃ l, ch = l ++ [(stop : Int)]) → stepsB ns ch = true → (∀ x ∈ ch, (stop : Int) ≤ x ∧ x ≤ start) → ch.length ≤ start + 1 → m'.length = m.length → Fx k m.length m m' → Vt k (T + 1000) m' → Q (.v (.list (ch.map .int))) m'
theorem dn_loop {D : AEnds} {k f : Nat} {ns : List Int} {m0 : Sto} {e2 : Option U} {stop : Nat} {start : Int} (hf : f = m0.length) (hk : k < m0.length) (hN : FormP ns) (way : Int) (hw0 : 0 ≤ way) (hw3 : way < 3) : ∀ (N x : Nat) (l : List Int) (T : Nat) (m : Sto) (x6 x7 : Option U),
    x ≤ stop + N → stop ≤ x → x < ns.length → (x : Int) ≤ start → (∃ r, l ++ [(x : Int)] = start :: r) → stepsB ns (l ++ [(x : Int)]) = true → (∀ y ∈ l, (stop : Int) ≤ y ∧ y ≤ start) → l.length + x ≤ start.toNat → start ≤ 150 → m[f]? = some (.lst ((l ++ [(x : Int)]).map .int)) → Vt k T m → T + 6 * N < 1000000000000 → Fx k m0.length m0 m →
    (∀ (ch : List Int) (m' : Sto) (x6 x7 : Option U), (∃ r, ch = start :: r) → (∃ l, ch = l ++ [(stop : Int)]) → stepsB ns ch = true → (∀ x ∈ ch, (stop : Int) ≤ x ∧ x ≤ start) → ch.length ≤ start.toNat + 1 → m'[f]? = some (.lst (ch.map .int)) → Vt k (T + 6 * N) m' → Fx k m0.length m0 m' →
      D.nx [some (.r k), some (.v (.list (ns.map .int))), e2, some (.v (.int stop)), some (.r f), some (.v (.int way)), x6, x7] m') →
    whN (t1_law_down sp_law_drip) (b1_law_down sp_law_drip) D (N + 1) [some (.r k), some (.v (.list (ns.map .int))), e2, some (.v (.int stop)), some (.r f), some (.v (.int way)), x6, x7] m := by
  intro N
  induction N with
  | zero =>
    intro x l T m x6 x7 h1 h2 h3 h4 h5 h6 h7 h8 h9 hm hV hT hF q
    have e : x = stop := by omega
    subst e
    unfold whN t1_law_down
    walk_at "ev"
    have ea : atI ((l ++ [(x : Int)]).map PyData.int) (-1) = some (.int x) := by rw [List.map_append]; exact atI_last
    simp only [hm, ea]
    walk_at "ev"
    simp only [Int.lt_irrefl, decide_false]
    walk_at "ev"
    refine q _ m _ _ h5 ⟨l, rfl⟩ h6 (fun y hy => ?_) (by simp; omega) hm hV hF
    rcases List.mem_append.mp hy with hy | hy
    · exact h7 y hy
    · have : y = (x : Int) := by simpa using hy
      omega
  | succ N ih =>
    intro x l T m x6 x7 h1 h2 h3 h4 h5 h6 h7 h8 h9 hm hV hT hF q
    unfold whN t1_law_down
    walk_at "ev"
    have ea : atI ((l ++ [(x : Int)]).map PyData.int) (-1) = some (.int x) := by rw [List.map_append]; exact atI_last
    simp only [hm, ea]
    walk_at "ev"
    by_cases c : (stop : Int) < (x : Int)
    · simp only [c, decide_true, if_true]
      unfold b1_law_down
      walk_at "ev"
      have hfl : f < m.length := (List.getElem?_eq_some_iff.mp hm).1
      simp only [hm, ea, atI_ints h3]
      walk_at "ev"
      refine ⟨k, T, _, rfl, hV, by omega, ⟨by decide, .inl (by decide)⟩, fun r1 m1 g1 g2 gl gF hV1 => ?_⟩
      walk_at "ev"
      refine ⟨k, T + 1, _, rfl, hV1, by omega, ⟨by decide, .inl (by decide)⟩, fun r2 m2 g3 g4 gl2 gF2 hV2 => ?_⟩
      walk_at "ev"
      refine ⟨⟨by decide, .inl (by decide)⟩, k, T + 2, _, rfl, hV2, by omega, ⟨by decide, .inl (by decide)⟩, fun r3 m3 g5 g6 gl3 gF3 hV3 => ?_⟩
      walk_at "ev"
      obtain ⟨w, c1, _, _⟩ := atI_exI (l := [r1, r2 / 5, if decide (0 < r3) = true then 1 else 0]) hw0 (by simpa using hw3)
      have c1' : atI [PyData.int r1, PyData.int (r2 / 5), PyData.int (if decide (0 < r3) = true then 1 else 0)] way = some (.int w) := c1
      have e3 : m3[f]? = some (.lst ((l ++ [(x : Int)]).map .int)) := by
        rw [gF3.2.2 f (by omega) (by omega), gF2.2.2 f (by omega) (by omega), gF.2.2 f (by omega) (by omega)]
        exact hm
      have f3 : Fx k m0.length m0 m3 := ((hF.trans (gF.less hF.2.1)).trans ((gF2.less (by have := hF.2.1; omega)).trans (gF3.less (by have := hF.2.1; omega))))
      simp only [c1']
      walk_at "ev"
      simp only [e3, ea, eqv_ii]
      walk_at "ev"
      have hll : (l ++ [(x : Int)]).length ≤ 200 := by simp; omega
      have hfx := hN.2.2 x h3
      have go : ∀ y : Nat, stop ≤ y → y < x → stepB ns x (y : Int) = true → whN (t1_law_down sp_law_drip) (b1_law_down sp_law_drip) D (N + 1) [some (.r k), some (.v (.list (ns.map .int))), e2, some (.v (.int stop)), some (.r f), some (.v (.int way)), some (.v (.int (ns.getD x 0))), some (.v (.int w))] (m3.set f (.lst ((l ++ [(x : Int)]).map PyData.int ++ [PyData.int (y : Int)]))) := by
        intro y y1 y2 y3
        refine ih y (l ++ [(x : Int)]) (T + 3) _ _ _ (by omega) y1 (by omega) (by omega) ?_ (stepsB_snoc ns x y l h6 y3) (fun z hz => ?_) (by simp; omega) h9 ?_ (hV3.set (by omega)) (by omega) (f3.set (by omega)) ?_
        · obtain ⟨r, hr⟩ := h5
          exact ⟨r ++ [(y : Int)], by rw [hr]; rfl⟩
        · rcases List.mem_append.mp hz with hz | hz
          · exact h7 z hz
          · have : z = (x : Int) := by simpa using hz
            omega
        · rw [List.map_append (l₁ := l ++ [(x : Int)])]
          exact List.getElem?_set_self (by omega)
        · intro ch m' z6 z7 a1 a2 a3 a4 a5 a6 a7 a8
          exact q ch m' z6 z7 a1 a2 a3 a4 a5 a6 (a7.mono (by omega)) a8
      have sz : (List.map PyData.int (l ++ [(x : Int)])).length < sizeLine := by rw [List.length_map, sizeLine_eq]; omega
      have goM : (List.map PyData.int (l ++ [(x : Int)])).length < sizeLine ∧ whN (t1_law_down sp_law_drip) (b1_law_down sp_law_drip) D (N + 1) [some (.r k), some (.v (.list (ns.map .int))), e2, some (.v (.int stop)), some (.r f), some (.v (.int way)), some (.v (.int (ns.getD x 0))), some (.v (.int w))] (m3.set f (.lst ((l ++ [(x : Int)]).map PyData.int ++ [PyData.int ((x : Int) - 1)]))) := by
        have := go (x - 1) (by omega) (by omega) (by
          unfold stepB
          rw [decide_eq_true (show ((x - 1 : Nat) : Int) < (x : Int) by omega), decide_eq_true (show ((x - 1 : Nat) : Int) = (x : Int) - 1 by omega)]
          rfl)
        rw [show ((x - 1 : Nat) : Int) = (x : Int) - 1 by omega] at this
        exact ⟨sz, this⟩
      refine ⟨by decide, ?_⟩
      by_cases c2 : w = 1
      · by_cases c3 : (stop : Int) ≤ ns.getD x 0
        · simp only [c2, c3, decide_true, if_true] at go ⊢
          have := go (ns.getD x 0).toNat (by omega) (by omega) (by
            unfold stepB
            rw [decide_eq_true (show ((ns.getD x 0).toNat : Int) < (x : Int) by omega), decide_eq_true (show ((ns.getD x 0).toNat : Int) = ns.getD (x : Int).toNat 0 by rw [Int.toNat_natCast]; omega), Bool.or_true]
            rfl)
          rw [Int.toNat_of_nonneg (by omega)] at this
          exact ⟨sz, this⟩
        · simp only [c2, c3, decide_true, decide_false, Bool.false_eq_true, if_true, if_false] at goM ⊢
          exact goM
      · simp only [c2, decide_false, Bool.false_eq_true, if_false]
        exact goM
    · have e : x = stop := by omega
      subst e
      simp only [c, decide_false]
      walk_at "ev"
      refine q _ m _ _ h5 ⟨l, rfl⟩ h6 (fun y hy => ?_) (by simp; omega) hm (hV.mono (by omega)) hF
      rcases List.mem_append.mp hy with hy | hy
      · exact h7 y hy
      · have : y = (x : Int) := by simpa using hy
        omega
theorem sem_law_down (us : List U) (m : Sto) (Q : QA) (h : sp_law_down us m Q) : g_law_down sp_law_drip (endsD m.length Q) (startU 8 us) m := by
  obtain ⟨k, T, start, stop, ns, rfl, hN, h1, h2, hV, hT, q⟩ := h
  have hk := hV.lt
  have hN2 := hN.2.1
  unfold g_law_down
  walk_at "ev"
  refine ⟨by decide, k, T, _, rfl, hV.app, by omega, ⟨by decide, .inl (by decide)⟩, fun way m1 w0 w3 gl gF hV1 => ?_⟩
  walk_at "ev"
  have hfx : Fx k m.length m m1 := ((Fx.refl (Nat.le_refl _)).app (l := [.lst [.int start]])).trans (gF.less (by simp))
  refine ⟨start - stop + 1, dn_loop (start := start) rfl hk hN way w0 w3 (start - stop) start [] (T + 1) m1 _ _ (by omega) h1 h2 (by omega) ⟨[], rfl⟩ rfl (by simp) (by simp) (by omega) ?_ hV1 (by omega) hfx ?_⟩
  · rw [gF.2.2 m.length (by simp) (by omega), List.getElem?_append_right (Nat.le_refl _)]
    simp
  · intro ch m' x6 x7 a1 a2 a3 a4 a5 a6 a7 a8
    walk_at "ev"
    simp only [a6]
    refine q ch _ a1 a2 a3 a4 (by omega) ?_ (a8.set (Nat.le_refl _)).take (((a7.set (by omega)).mono (by omega)).take hk)
    rw [List.length_take, List.length_set]
    have := a8.2.1
    omega
/-! ### what is a chain -/
def chD (ns : List Int) : PyData → Bool
  | .list l => !l.isEmpty && (l.all fun d => isInt d 0 ((ns.length : Int) - 1)) && (match intsOf l with
    | some cs => stepsB ns cs
    | none => false)
  | _ => false
theorem eqv_nil (l : List PyData) : PyData.eqv (.list l) (.list []) = l.isEmpty := by
  cases l <;> simp [PyData.eqv, PyData.eqvAll]
theorem stepsB_zip (ns : List Int) : ∀ cs : List Int, stepsB ns cs = (cs.zip (cs.drop 1)).all fun p => stepB ns p.1 p.2
  | [] => rfl
  | [_] => rfl
  | x :: y :: r => by
    rw [stepsB, stepsB_zip ns (y :: r)]
    simp
theorem zipU_ints (cs ds : List Int) : zipU (cs.map .int) (ds.map .int) = (cs.zip ds).map fun p => U.v (.tuple [.int p.1, .int p.2]) := by
  unfold zipU
  rw [List.zip_map, List.map_map]
  rfl
theorem all_isInt_ints {l : List PyData} {lo hi : Int} (h : (l.all fun d => isInt d lo hi) = true) : ∃ cs : List Int, l = cs.map .int ∧ ∀ c ∈ cs, lo ≤ c ∧ c ≤ hi := by
  rw [List.all_eq_true] at h
  obtain ⟨cs, rfl⟩ := all_ints fun d hd => isInt_int (h d hd)
  refine ⟨cs, rfl, fun c hc => ?_⟩
  have := h (.int c) (List.mem_map.mpr ⟨c, hc, rfl⟩)
  simp only [isInt, Bool.and_eq_true, decide_eq_true_eq] at this
  exact this
theorem chD_list {ns : List Int} {cs : List Int} (h : cs ≠ []) (hr : ((cs.map PyData.int).all fun d => isInt d 0 ((ns.length : Int) - 1)) = true) : chD ns (.list (cs.map .int)) = stepsB ns cs := by
  show (!(cs.map PyData.int).isEmpty && _ && (match intsOf (cs.map PyData.int) with
    | some cs => stepsB ns cs
    | none => false)) = _
  rw [hr, intsOf_map]
  cases cs with
  | nil => exact (h rfl).elim
  | cons => rfl
/-- the links as data or a cell, the value any data that == can be asked of -/
def sp_is_chain_of : ASp := fun us m Q => ∃ (u w : U) (ns : List Int) (d : PyData), us = [u, w] ∧ asL m u = some (ns.map .int) ∧ FormP ns ∧ asD m w = some d ∧ (∀ l, d = .list l → SeqAt.shaped (.list l) = true ∧ l.length ≤ 1000000) ∧ Q (.v (.bool (chD ns d))) m
theorem sem_is_chain_of (us : List U) (m : Sto) (Q : QA) (h : sp_is_chain_of us m Q) : g_is_chain_of sp_is_integer (endsD m.length Q) (startU 4 us) m := by
  obtain ⟨u, w, ns, d, rfl, hu, hN, hd, hsh, q⟩ := h
  unfold g_is_chain_of
  walk_at "ev"
  simp only [hd]
  cases d with
  | list l =>
    obtain ⟨sh, hz⟩ := hsh l rfl
    have hl := asL_of_D hd
    have sh0 := shaped_ll []
    rw [List.map_nil] at sh0
    simp only [kindD, k_list_list, hl, asS_of hl, asQ_of hl, sh, sh0, eqv_nil]
    walk_at "ev"
    refine ⟨by decide, sh, sh0, ?_⟩
    cases e : l.isEmpty with
    | true =>
      have : chD ns (.list l) = false := by
        show (!l.isEmpty && _ && _) = false
        rw [e]; rfl
      rw [this] at q
      walk_at "ev"
      exact q
    | false =>
      walk_at "ev"
      refine lcU_map U.v (fun _ => true) (fun d => .bool (isInt d 0 ((ns.length : Int) - 1))) (guard_self m w) l [] (by simp; omega) (fun d hd2 K1 K2 q1 q2 => ?_) ?_
      · walk_at "ev"
        simp only [asS_of hu, List.length_map]
        refine ⟨.v d, d, 0, _, rfl, rfl, ?_⟩
        exact q1 rfl
      · rw [filter_true, List.nil_append, map_bool]
        walk_at "ev"
        have ea : ((l.map fun d => isInt d 0 ((ns.length : Int) - 1)).all id) = l.all fun d => isInt d 0 ((ns.length : Int) - 1) := by rw [List.all_map]; rfl
        have hne : l ≠ [] := fun z => by rw [z] at e; cases e
        rw [ea]
        by_cases c : (l.all fun d => isInt d 0 ((ns.length : Int) - 1)) = true
        · obtain ⟨cs, rfl, hr⟩ := all_isInt_ints c
          have hcs : cs ≠ [] := fun z => hne (by rw [z]; rfl)
          rw [chD_list hcs c, stepsB_zip] at q
          simp only [c, hl, asQ_of hl]
          walk_at "ev"
          rw [show (some (1 : Int)) = some ((1 : Nat) : Int) from rfl, cutD_from, ← List.map_drop, zipU_ints]
          refine lcU_map (fun (p : Int × Int) => U.v (.tuple [.int p.1, .int p.2])) (fun _ => true) (fun p => .bool (stepB ns p.1 p.2)) ⟨guard_self m w, trivial⟩ _ [] (by rw [List.length_zip]; simp at hz ⊢; omega) (fun p hp K1 K2 q1 q2 => ?_) ?_
          · have hp1 := hr p.1 (List.of_mem_zip hp).1
            have ix := atI_ints (ns := ns) (j := p.1.toNat) (by omega)
            rw [Int.toNat_of_nonneg hp1.1] at ix
            walk_at "ev"
            simp only [asS_of hu, ix]
            walk_at "ev"
            refine ⟨by decide, rfl, rfl, ?_⟩
            have e5 : inD (.int p.2) [.int (p.1 - 1), .int (ns.getD p.1.toNat 0)] = decide (p.2 ∈ [p.1 - 1, ns.getD p.1.toNat 0]) := inD_i p.2 [p.1 - 1, ns.getD p.1.toNat 0]
            have q3 := q1 rfl
            unfold stepB at q3
            simp only [e5, List.mem_cons, List.not_mem_nil, or_false, Bool.decide_or]
            cases hB : (decide (p.2 = p.1 - 1) || decide (p.2 = ns.getD p.1.toNat 0)) with
            | true =>
              rw [hB, Bool.and_true] at q3
              simp only [if_true]
              exact q3
            | false =>
              rw [hB, Bool.and_false] at q3
              simp only [Bool.false_eq_true, if_false]
              exact q3
          · rw [filter_true, List.nil_append, map_bool]
            walk_at "ev"
            have e6 : (((cs.zip (cs.drop 1)).map fun p => stepB ns p.1 p.2).all id) = (cs.zip (cs.drop 1)).all fun p => stepB ns p.1 p.2 := by rw [List.all_map]; rfl
            rw [e6]
            exact q
        · have : chD ns (.list l) = false := by
            show (!l.isEmpty && (l.all fun d => isInt d 0 ((ns.length : Int) - 1)) && _) = false
            rw [Bool.eq_false_iff.mpr c, Bool.and_false]; rfl
          rw [this] at q
          simp only [c]
          walk_at "ev"
          exact q
  | _ =>
    simp only [kindD, k_NoneType_list, k_bool_list, k_int_list, k_str_list, k_tuple_list, k_dict_list, chD] at q ⊢
    walk_at "ev"
    exact q
def sp_is_chain : ASp := fun us m Q => ∃ (u w : U) (ns : List Int) (d : PyData), us = [u, w] ∧ asL m u = some (ns.map .int) ∧ LogP ns ∧ asD m w = some d ∧ (∀ l, d = .list l → SeqAt.shaped (.list l) = true ∧ l.length ≤ 1000000) ∧ Q (.v (.bool (chD ns d))) m
theorem sem_is_chain (us : List U) (m : Sto) (Q : QA) (h : sp_is_chain us m Q) : g_is_chain sp_need_log sp_is_chain_of (endsD m.length Q) (startU 2 us) m := by
  obtain ⟨u, w, ns, d, rfl, hu, hL, hd, hsh, q⟩ := h
  unfold g_is_chain
  walk_at "ev"
  refine ⟨u, ns, rfl, hu, by have := hL.1.2.1; omega, (logI_iff ns).mpr hL, ?_⟩
  walk_at "ev"
  refine ⟨u, w, ns, d, rfl, hu, hL.1, hd, hsh, ?_⟩
  walk_at "ev"
  exact q
/-! ### odd values -/
def oddL : List PyData := [.none, .int 0, .bool true, .str "", .str "0 0", .tuple [], .tuple [.int 0], .dict [], .list [], .list [.int 1], .list [.int (-1)], .list [.bool true], .list [.bool false], .list [.none], .list [.str "0"], .list [.list [.int 0]], .list [.tuple [.int 0]],
  .list [.int 0, .int 1], .list [.int 0, .int (-1)], .list [.int 0, .int 0, .int 2], .list [.int 0, .bool true], .list [.int 0, .bool false], .list [.int 0, .int 0, .int 0, .int 1], .list [.int 0, .none], .list [.int 0, .str "0"], .dict [(.int 0, .int 0)],
  .list (List.replicate 151 [PyData.int 0]).flatten, .list [.int 0, .int 0, .int 0, .int 3], .tuple [.int 0, .int 0], .list [.list [.int 0, .int 0]], .list [.int 0, .list [.int 0]], .list [.int 0, .int 0, .bool true]]
def sp_law_odd : ASp := fun us m Q => us = [] ∧ Q (.v (.list oddL)) m
theorem sem_law_odd (us : List U) (m : Sto) (Q : QA) (h : sp_law_odd us m Q) : g_law_odd (endsD m.length Q) (startU 1 us) m := by
  obtain ⟨rfl, q⟩ := h
  unfold g_law_odd
  walk_at "ev"
  repeat (refine ⟨by decide, ?_⟩)
  exact q
theorem odd_shaped : ∀ d ∈ oddL, ∀ l, d = .list l → SeqAt.shaped (.list l) = true ∧ l.length ≤ 1000000 := by
  have h : (oddL.all fun d => match d with
      | .list l => SeqAt.shaped (.list l) && decide (l.length ≤ 1000000)
      | _ => true) = true := by decide +kernel
  intro d hd l e
  have := List.all_eq_true.mp h d hd
  subst e
  simp only [Bool.and_eq_true, decide_eq_true_eq] at this
  exact this
theorem cutD_len (l : List PyData) (a b : Option Int) : (cutD l a b).length ≤ l.length := by
  unfold cutD
  rw [List.length_take, List.length_drop]
  omega
theorem cutD_mem {l : List PyData} {a b : Option Int} {x : PyData} (h : x ∈ cutD l a b) : x ∈ l := List.mem_of_mem_drop (List.mem_of_mem_take h)
/-- a list whose items are small -/
def Gd (L : Nat) (l : List PyData) : Prop := l.length ≤ L ∧ ∀ e ∈ l, Shw 41 1 200 e
theorem Gd.cut {L : Nat} {l : List PyData} (h : Gd L l) (a b : Option Int) : Gd L (cutD l a b) := ⟨Nat.le_trans (cutD_len l a b) h.1, fun e he => h.2 e (cutD_mem he)⟩
theorem Gd.app {L L' : Nat} {l l' : List PyData} (h : Gd L l) (h' : Gd L' l') : Gd (L + L') (l ++ l') := ⟨by rw [List.length_append]; have := h.1; have := h'.1; omega, fun e he => (List.mem_append.mp he).elim (h.2 e) (h'.2 e)⟩
theorem Gd.one {d : PyData} (h : Shw 41 1 200 d) : Gd 1 [d] := by
  refine ⟨by simp, fun e he => ?_⟩
  have : e = d := by simpa using he
  rw [this]
  exact h
theorem Gd.list {L : Nat} {l : List PyData} (h : Gd L l) (hL : L ≤ 460) : Shw 41 2 100000 (.list l) := (Shw.list (B := 41) (k := 1) (n := 200) (L := 460) h.2 (Nat.le_trans h.1 hL)).mono (Nat.le_refl _) (by decide)
theorem Gd.tup {L : Nat} {l : List PyData} (h : Gd L l) (hL : L ≤ 460) : Shw 41 2 100000 (.tuple l) := (Shw.tuple (B := 41) (k := 1) (n := 200) (L := 460) h.2 (Nat.le_trans h.1 hL)).mono (Nat.le_refl _) (by decide)
theorem Gd.le {L : Nat} {l : List PyData} (h : Gd L l) (hL : L ≤ 460) : l.length ≤ sizeLine := by rw [sizeLine_eq]; have := h.1; omega
theorem Gd.ints {L : Nat} {ns : List Int} (hl : ns.length ≤ L) (h : ∀ x ∈ ns, 0 ≤ x ∧ x ≤ 1000) : Gd L (ns.map PyData.int) := by
  refine ⟨by rw [List.length_map]; exact hl, fun e he => ?_⟩
  obtain ⟨i, hi, rfl⟩ := List.mem_map.mp he
  have := h i hi
  have p40 : (10 : Nat) ^ 40 = 10000000000000000000000000000000000000000 := by decide
  exact (Shw.int (B := 41) 40 (by decide) (by decide) (by decide) (by omega)).mono (by decide) (by decide)
end Z.P
/-! printed by gen.py: the readings of the defs of law_k04_errors_of_links -/
namespace Z.K04
open PySem PySem.Spec PyProof.Rows L2 Z Z.P
def topS (i : Nat) : Stmt := PySem.Challenge.pw_backlinks_k04_errors_of_links.main.body.getD i (.Pass ⟨0, 0, 0, 0⟩)

/-! is_integer(value, low, high): 0 value, 1 low, 2 high -/
abbrev s_is_integer : Stmt := topS 20
abbrev N_is_integer : List Str := ["value", "low", "high"]
theorem sc_is_integer : FnScope N_is_integer ["value", "low", "high"] (defScope s_is_integer) := ⟨rfl, rfl, rfl, by decide +kernel, rfl, by decide +kernel, by decide +kernel⟩
theorem ok_is_integer {P : Program} {w : World} {K : PySem.W.Frag} {mg : Str → Option Value} {base : Heap} {a : ASp} (d : Dfn K mg "is_integer" s_is_integer ["value", "low", "high"]) (n_isinstance : mg "isinstance" = none) (n_int : mg "int" = none) (n_bool : mg "bool" = none)
    (len : ∀ us m Q, a us m Q → us.length = 3) (sem : ∀ us m Q, a us m Q → g_is_integer  (endsD m.length Q) (startU 3 us) m) : Cal P w K mg base 1 "is_integer" ["value", "low", "high"] a := by
  refine Cal.mk' d sc_is_integer len (fun f cdv A outer s H E hr hg => ?_) sem
  have nd := sc_is_integer.nd
  unfold g_is_integer
  exact (dss_one (ds_ret (de_and (de_isi (by decide) (dv 0) n_isinstance n_int bt_int) (de_and (de_not (de_isi (by decide) (dv 0) n_isinstance n_bool bt_bool)) (de_one (de_chain (op_le) (sim_B _) (op_le) (sim_B _) (dv 1) (dv 0) (dv 2)))))))

/-! have_form(value): 0 value, 1 entry, 2 link -/
abbrev s_have_form : Stmt := topS 21
abbrev N_have_form : List Str := ["value", "entry", "link"]
theorem sc_have_form : FnScope N_have_form ["value"] (defScope s_have_form) := ⟨rfl, rfl, rfl, by decide +kernel, rfl, by decide +kernel, by decide +kernel⟩
theorem ok_have_form {P : Program} {w : World} {K : PySem.W.Frag} {mg : Str → Option Value} {base : Heap} {a a_is_integer : ASp} (d : Dfn K mg "have_form" s_have_form ["value"]) (C_is_integer : Cal P w K mg base 1 "is_integer" ["value", "low", "high"] a_is_integer) (n_isinstance : mg "isinstance" = none) (n_list : mg "list" = none) (n_len : mg "len" = none) (n_enumerate : mg "enumerate" = none) (n_max : mg "max" = none) (n_all : mg "all" = none) (c_MOST_ENTRIES : ∃ t, mg "MOST_ENTRIES" = some (.int 150 t))
    (len : ∀ us m Q, a us m Q → us.length = 1) (sem : ∀ us m Q, a us m Q → g_have_form a_is_integer (endsD m.length Q) (startU 3 us) m) : Cal P w K mg base 2 "have_form" ["value"] a := by
  obtain ⟨_, c_MOST_ENTRIES⟩ := c_MOST_ENTRIES
  refine Cal.mk' d sc_have_form len (fun f cdv A outer s H E hr hg => ?_) sem
  have nd := sc_have_form.nd
  unfold g_have_form
  exact (dss_cons (ds_if (PW.pt (dw_or (dt_not (dt_val (de_isi (by decide) (dv 0) n_isinstance n_list bt_list))) (dw_or1 (dt_not (dt_chain (op_le) (sim_B _) (op_le) (sim_B _) de_int (de_callB call_lenA sim_len (by rfl) n_len bt_len (da_cons (dv 0) da_nil)) (de_gint c_MOST_ENTRIES)))))) (dss_one (ds_ret de_bl)) dss_nil)
  (dss_one (ds_ret (de_callB (cr_all rfl) sim_all (by rfl) n_all bt_all (da_cons (de_lc rfl nd (di_enum n_enumerate (da_cons (dv 0) da_nil)) (blkOk_by (own := [("entry", 1), ("link", 2)]) (N := N_have_form) (sc := defScope s_have_form) (by decide +kernel)) rfl (gown_2 1 2) (fun _ _ _ _ _ => (pg_tup rfl (pgs_cons (pg_name (i := 1) nd rfl (by first | exact Or.inl rfl | exact Or.inr rfl)) (pgs_cons (pg_name (i := 2) nd rfl (by first | exact Or.inl rfl | exact Or.inr rfl)) pgs_nil)))) (fun _ _ _ _ _ => dts_nil) (fun _ _ _ _ _ => (de_calC C_is_integer hr hg (da_cons (dv 2) (da_cons de_int (da_cons (de_callB (call_maxA rfl) sim_max (by rfl) n_max bt_max (da_cons de_int (da_cons (de_op op_sub (sim_I _) (dv 1) de_int) da_nil))) da_nil)))))) da_nil)))))

/-! least_crossing(links): 0 links, 1 entry, 2 link, 3 other -/
abbrev s_least_crossing : Stmt := topS 22
abbrev N_least_crossing : List Str := ["links", "entry", "link", "other"]
theorem sc_least_crossing : FnScope N_least_crossing ["links"] (defScope s_least_crossing) := ⟨rfl, rfl, rfl, by decide +kernel, rfl, by decide +kernel, by decide +kernel⟩
theorem ok_least_crossing {P : Program} {w : World} {K : PySem.W.Frag} {mg : Str → Option Value} {base : Heap} {a : ASp} (d : Dfn K mg "least_crossing" s_least_crossing ["links"]) (n_enumerate : mg "enumerate" = none) (n_len : mg "len" = none) (n_range : mg "range" = none)
    (len : ∀ us m Q, a us m Q → us.length = 1) (sem : ∀ us m Q, a us m Q → g_least_crossing  (endsD m.length Q) (startU 4 us) m) : Cal P w K mg base 1 "least_crossing" ["links"] a := by
  refine Cal.mk' d sc_least_crossing len (fun f cdv A outer s H E hr hg => ?_) sem
  have nd := sc_least_crossing.nd
  unfold g_least_crossing b2_least_crossing b1_least_crossing
  exact (dss_cons (ds_for .never rfl (di_enum n_enumerate (da_cons (dv 0) da_nil)) (dg_tup rfl (dgs_cons (dg_n 1 nd) (dgs_cons (dg_n 2 nd) dgs_nil)))
  (dss_one (ds_for .never rfl (di_rng2 n_range (da_cons (de_op op_addAll (sim_add false) (dv 1) de_int) (da_cons (de_callB call_lenA sim_len (by rfl) n_len bt_len (da_cons (dv 0) da_nil)) da_nil))) (dg_n 3 nd)
  (dss_one (ds_if (dt_chain (op_lt) (sim_B _) (op_lt) (sim_B _) (dv 2) (de_ix (dv 0) (dv 3)) (dv 1)) (dss_one (ds_ret (de_tup (da_cons (dv 1) (da_cons (dv 3) da_nil))))) dss_nil)))))
  (dss_one (ds_ret de_non)))

/-! is_log(value): 0 value -/
abbrev s_is_log : Stmt := topS 23
abbrev N_is_log : List Str := ["value"]
theorem sc_is_log : FnScope N_is_log ["value"] (defScope s_is_log) := ⟨rfl, rfl, rfl, by decide +kernel, rfl, by decide +kernel, by decide +kernel⟩
theorem ok_is_log {P : Program} {w : World} {K : PySem.W.Frag} {mg : Str → Option Value} {base : Heap} {a a_have_form a_least_crossing : ASp} (d : Dfn K mg "is_log" s_is_log ["value"]) (C_have_form : Cal P w K mg base 2 "have_form" ["value"] a_have_form) (C_least_crossing : Cal P w K mg base 1 "least_crossing" ["links"] a_least_crossing)
    (len : ∀ us m Q, a us m Q → us.length = 1) (sem : ∀ us m Q, a us m Q → g_is_log a_have_form a_least_crossing (endsD m.length Q) (startU 1 us) m) : Cal P w K mg base 3 "is_log" ["value"] a := by
  refine Cal.mk' d sc_is_log len (fun f cdv A outer s H E hr hg => ?_) sem
  have nd := sc_is_log.nd
  unfold g_is_log
  exact (dss_one (ds_ret (de_and (de_calC C_have_form hr hg (da_cons (dv 0) da_nil)) (de_one (de_isN (de_calC C_least_crossing hr hg (da_cons (dv 0) da_nil)))))))

/-! need_log(value): 0 value -/
abbrev s_need_log : Stmt := topS 24
abbrev N_need_log : List Str := ["value"]
theorem sc_need_log : FnScope N_need_log ["value"] (defScope s_need_log) := ⟨rfl, rfl, rfl, by decide +kernel, rfl, by decide +kernel, by decide +kernel⟩
theorem okx_need_log {P : Program} {w : World} {K : PySem.W.Frag} {mg : Str → Option Value} {base : Heap} {a : AXp} {a_is_log : ASp} (d : Dfn K mg "need_log" s_need_log ["value"]) (C_is_log : Cal P w K mg base 3 "is_log" ["value"] a_is_log) (xt : ExT K mg ["InvalidLog", "InvalidEntry", "InvalidTarget", "InvalidChain", "InvalidNumber", "InvalidSize", "InvalidKnown", "InvalidPrices", "InvalidBase", "InvalidTag", "InvalidText", "InvalidCommand", "Different", "NothingToUndo"] ["BacklinkError", "InvalidLog", "InvalidEntry", "InvalidTarget", "InvalidChain", "InvalidNumber", "InvalidSize", "InvalidKnown", "InvalidPrices", "InvalidBase", "InvalidTag", "InvalidText", "InvalidCommand", "Different", "NothingToUndo", "Crossing", "InvalidChange"])
    (len : ∀ us m Q X, a us m Q X → us.length = 1) (sem : ∀ us m Q X, a us m Q X → x_need_log a_is_log (endX m.length X) (endsD m.length Q) (startU 1 us) m) : CalX P w K mg base 4 "need_log" ["value"] a := by
  refine CalX.mk' d sc_need_log len (fun f cdv A outer s H E hr hg tk own => ?_) sem
  have nd := sc_need_log.nd
  unfold x_need_log
  exact (dxs_one (dx_if (dt_not (dt_val (de_calC C_is_log hr hg (da_cons (dv 0) da_nil)))) (dxs_one (dx_raise xt (by decide) rfl tk)) dxs_nil))

/-! crossing_in(value): 0 value -/
abbrev s_crossing_in : Stmt := topS 25
abbrev N_crossing_in : List Str := ["value"]
theorem sc_crossing_in : FnScope N_crossing_in ["value"] (defScope s_crossing_in) := ⟨rfl, rfl, rfl, by decide +kernel, rfl, by decide +kernel, by decide +kernel⟩
theorem okx_crossing_in {P : Program} {w : World} {K : PySem.W.Frag} {mg : Str → Option Value} {base : Heap} {a : AXp} {a_have_form a_least_crossing : ASp} (d : Dfn K mg "crossing_in" s_crossing_in ["value"]) (C_have_form : Cal P w K mg base 2 "have_form" ["value"] a_have_form) (C_least_crossing : Cal P w K mg base 1 "least_crossing" ["links"] a_least_crossing) (xt : ExT K mg ["InvalidLog", "InvalidEntry", "InvalidTarget", "InvalidChain", "InvalidNumber", "InvalidSize", "InvalidKnown", "InvalidPrices", "InvalidBase", "InvalidTag", "InvalidText", "InvalidCommand", "Different", "NothingToUndo"] ["BacklinkError", "InvalidLog", "InvalidEntry", "InvalidTarget", "InvalidChain", "InvalidNumber", "InvalidSize", "InvalidKnown", "InvalidPrices", "InvalidBase", "InvalidTag", "InvalidText", "InvalidCommand", "Different", "NothingToUndo", "Crossing", "InvalidChange"])
    (len : ∀ us m Q X, a us m Q X → us.length = 1) (sem : ∀ us m Q X, a us m Q X → x_crossing_in a_have_form a_least_crossing (endX m.length X) (endsD m.length Q) (startU 1 us) m) : CalX P w K mg base 3 "crossing_in" ["value"] a := by
  refine CalX.mk' d sc_crossing_in len (fun f cdv A outer s H E hr hg tk own => ?_) sem
  have nd := sc_crossing_in.nd
  unfold x_crossing_in
  exact (dxs_cons (dx_if (dt_not (dt_val (de_calC C_have_form hr hg (da_cons (dv 0) da_nil)))) (dxs_one (dx_raise xt (by decide) rfl tk)) dxs_nil)
  (dxs_one (dx_of (ds_ret (de_calC C_least_crossing hr hg (da_cons (dv 0) da_nil))))))

/-! targets_of(links): 0 links, 1 found, 2 entry, 3 link, 4 target -/
abbrev s_targets_of : Stmt := topS 26
abbrev N_targets_of : List Str := ["links", "found", "entry", "link", "target"]
theorem sc_targets_of : FnScope N_targets_of ["links"] (defScope s_targets_of) := ⟨rfl, rfl, rfl, by decide +kernel, rfl, by decide +kernel, by decide +kernel⟩
theorem ok_targets_of {P : Program} {w : World} {K : PySem.W.Frag} {mg : Str → Option Value} {base : Heap} {a : ASp} (d : Dfn K mg "targets_of" s_targets_of ["links"]) (n_enumerate : mg "enumerate" = none)
    (len : ∀ us m Q, a us m Q → us.length = 1) (sem : ∀ us m Q, a us m Q → g_targets_of  (endsD m.length Q) (startU 5 us) m) : Cal P w K mg base 1 "targets_of" ["links"] a := by
  refine Cal.mk' d sc_targets_of len (fun f cdv A outer s H E hr hg => ?_) sem
  have nd := sc_targets_of.nd
  unfold g_targets_of b1_targets_of
  exact (dss_cons (ds_set 1 nd (de_lst (da_cons de_int da_nil)))
  (dss_cons (ds_for .never rfl (di_enum n_enumerate (da_cons (de_sl false (dv 0) (do_some de_int) do_none) da_nil)) (dg_tup rfl (dgs_cons (dg_n 2 nd) (dgs_cons (dg_n 3 nd) dgs_nil)))
  (dss_one (ds_set 1 nd (de_op op_addAll (sim_add false) (de_lc rfl nd (di_list (dv 1)) (blkOk_by (own := [("target", 4)]) (N := N_targets_of) (sc := defScope s_targets_of) (by decide +kernel)) rfl (gown_n 4) (fun _ _ _ _ _ => (pg_name (i := 4) nd rfl (by first | exact Or.inl rfl | exact Or.inr rfl))) (fun _ _ _ _ _ => (dts_one (dt_cmp (op_le) (sim_B _) (dv 4) (dv 3) (nomark _)))) (fun _ _ _ _ _ => (dv 4))) (de_lst (da_cons (de_op op_addAll (sim_add false) (dv 2) de_int) da_nil))))))
  (dss_one (ds_ret (dv 1)))))

/-! allowed_targets(links): 0 links -/
abbrev s_allowed_targets : Stmt := topS 27
abbrev N_allowed_targets : List Str := ["links"]
theorem sc_allowed_targets : FnScope N_allowed_targets ["links"] (defScope s_allowed_targets) := ⟨rfl, rfl, rfl, by decide +kernel, rfl, by decide +kernel, by decide +kernel⟩
theorem okx_allowed_targets {P : Program} {w : World} {K : PySem.W.Frag} {mg : Str → Option Value} {base : Heap} {a : AXp} {a_targets_of : ASp} {ax_need_log : AXp} (d : Dfn K mg "allowed_targets" s_allowed_targets ["links"]) (C_targets_of : Cal P w K mg base 1 "targets_of" ["links"] a_targets_of) (X_need_log : CalX P w K mg base 4 "need_log" ["value"] ax_need_log)
    (len : ∀ us m Q X, a us m Q X → us.length = 1) (sem : ∀ us m Q X, a us m Q X → x_allowed_targets a_targets_of ax_need_log (endX m.length X) (endsD m.length Q) (startU 1 us) m) : CalX P w K mg base 5 "allowed_targets" ["links"] a := by
  refine CalX.mk' d sc_allowed_targets len (fun f cdv A outer s H E hr hg tk own => ?_) sem
  have nd := sc_allowed_targets.nd
  unfold x_allowed_targets
  exact (dxs_cons (dx_expr (dr_cal X_need_log hr hg tk (da_cons (dv 0) da_nil)))
  (dxs_one (dx_of (ds_ret (de_calC C_targets_of hr hg (da_cons (dv 0) da_nil))))))

/-! _law_vat(script, k): 0 script, 1 k, 2 cell -/
abbrev s_law_vat : Stmt := topS 29
abbrev N_law_vat : List Str := ["script", "k", "cell"]
theorem sc_law_vat : FnScope N_law_vat ["script", "k"] (defScope s_law_vat) := ⟨rfl, rfl, rfl, by decide +kernel, rfl, by decide +kernel, by decide +kernel⟩
theorem ok_law_vat {P : Program} {w : World} {K : PySem.W.Frag} {mg : Str → Option Value} {base : Heap} {a : ASp} (d : Dfn K mg "_law_vat" s_law_vat ["script", "k"]) (n_len : mg "len" = none) (n_abs : mg "abs" = none) (n_max : mg "max" = none)
    (len : ∀ us m Q, a us m Q → us.length = 2) (sem : ∀ us m Q, a us m Q → g_law_vat  (endsD m.length Q) (startU 3 us) m) : Cal P w K mg base 1 "_law_vat" ["script", "k"] a := by
  refine Cal.mk' d sc_law_vat len (fun f cdv A outer s H E hr hg => ?_) sem
  have nd := sc_law_vat.nd
  unfold g_law_vat
  exact (dss_cons (ds_set 2 nd (de_if (dt_cmp (op_lt) (sim_B _) (dv 1) (de_callB call_lenA sim_len (by rfl) n_len bt_len (da_cons (dv 0) da_nil)) (nomark _)) (de_ix (dv 0) (dv 1)) de_int))
  (dss_one (ds_ret (de_lstM (da_cons (de_callB (call_maxA rfl) sim_max (by rfl) n_max bt_max (da_cons de_int (da_cons (de_op op_sub (sim_I _) (de_callB call_abs sim_abs (by rfl) n_abs bt_abs (da_cons (dv 2) da_nil)) (de_op op_powZ (sim_Ic _ _) de_int de_int)) da_nil))) (da_cons (de_op op_addAll (sim_add false) (de_op op_addAll (sim_add false) (de_op op_mulAll (sim_mul false) (de_op op_mod (sim_Ic _ _) (dv 2) (de_op op_addAll (sim_add false) (de_op op_powZ (sim_Ic _ _) de_int de_int) de_int)) de_int) (de_op op_mulAll (sim_mul false) de_int (dv 1))) de_int) (da_cons de_int da_nil)))))))

/-! _law_drip(vat, many): 0 vat, 1 many, 2 found, 3 drop -/
abbrev s_law_drip : Stmt := topS 30
abbrev N_law_drip : List Str := ["vat", "many", "found", "drop"]
theorem sc_law_drip : FnScope N_law_drip ["vat", "many"] (defScope s_law_drip) := ⟨rfl, rfl, rfl, by decide +kernel, rfl, by decide +kernel, by decide +kernel⟩
theorem ok_law_drip {P : Program} {w : World} {K : PySem.W.Frag} {mg : Str → Option Value} {base : Heap} {a : ASp} (d : Dfn K mg "_law_drip" s_law_drip ["vat", "many"]) 
    (len : ∀ us m Q, a us m Q → us.length = 2) (sem : ∀ us m Q, a us m Q → g_law_drip  (endsD m.length Q) (startU 4 us) m) : Cal P w K mg base 1 "_law_drip" ["vat", "many"] a := by
  refine Cal.mk' d sc_law_drip len (fun f cdv A outer s H E hr hg => ?_) sem
  have nd := sc_law_drip.nd
  unfold g_law_drip
  exact (dss_cons (ds_if (dt_cmp (op_gt) (sim_B _) (de_ix (dv 0) de_int) de_int (nomark _)) (dss_cons (ds_set 2 nd (de_op op_mod (sim_Ic _ _) (de_ix (dv 0) de_int) (dv 1)))
  (dss_cons (ds_setix (de_op op_div (sim_Ic _ _) (de_ix (dv 0) de_int) (dv 1)) (dv 0) de_int)
  (dss_one (ds_ret (dv 2))))) dss_nil)
  (dss_cons (ds_setix (de_op op_addAll (sim_add false) (de_ix (dv 0) de_int) de_int) (dv 0) de_int)
  (dss_cons (ds_set 3 nd (de_op op_mod (sim_Ic _ _) (de_op op_powZ (sim_Ic _ _) (de_op op_addAll (sim_add false) (de_ix (dv 0) de_int) (de_op op_mulAll (sim_mul false) de_int (de_ix (dv 0) de_int))) de_int) (de_op op_addAll (sim_add false) (de_op op_powZ (sim_Ic _ _) de_int de_int) de_int)))
  (dss_cons (ds_set 3 nd (de_op op_mod (sim_Ic _ _) (de_op op_powZ (sim_Ic _ _) (de_op op_addAll (sim_add false) (dv 3) (de_op op_mulAll (sim_mul false) de_int (de_ix (dv 0) de_int))) de_int) (de_op op_addAll (sim_add false) (de_op op_powZ (sim_Ic _ _) de_int de_int) de_int)))
  (dss_one (ds_ret (de_op op_mod (sim_Ic _ _) (de_op op_div (sim_Ic _ _) (dv 3) de_int) (dv 1))))))))

/-! _law_log(vat, size): 0 vat, 1 size, 2 found, 3 allowed, 4 way, 5 entry, 6 most, 7 spots, 8 spot -/
abbrev s_law_log : Stmt := topS 31
abbrev N_law_log : List Str := ["vat", "size", "found", "allowed", "way", "entry", "most", "spots", "spot"]
theorem sc_law_log : FnScope N_law_log ["vat", "size"] (defScope s_law_log) := ⟨rfl, rfl, rfl, by decide +kernel, rfl, by decide +kernel, by decide +kernel⟩
theorem ok_law_log {P : Program} {w : World} {K : PySem.W.Frag} {mg : Str → Option Value} {base : Heap} {a a_law_drip : ASp} (d : Dfn K mg "_law_log" s_law_log ["vat", "size"]) (C_law_drip : Cal P w K mg base 1 "_law_drip" ["vat", "many"] a_law_drip) (n_range : mg "range" = none) (n_len : mg "len" = none) (n_max : mg "max" = none)
    (len : ∀ us m Q, a us m Q → us.length = 2) (sem : ∀ us m Q, a us m Q → g_law_log a_law_drip (endsD m.length Q) (startU 9 us) m) : Cal P w K mg base 2 "_law_log" ["vat", "size"] a := by
  refine Cal.mk' d sc_law_log len (fun f cdv A outer s H E hr hg => ?_) sem
  have nd := sc_law_log.nd
  unfold g_law_log b1_law_log
  exact (dss_cons (ds_par3 2 3 4 rfl nd (da_cons (de_lstM (da_cons de_int da_nil)) (da_cons (de_lst (da_cons de_int da_nil)) (da_cons (de_calC C_law_drip hr hg (da_cons (dv 0) (da_cons de_int da_nil))) da_nil))))
  (dss_cons (ds_for .never rfl (di_rng2 n_range (da_cons de_int (da_cons (dv 1) da_nil))) (dg_n 5 nd)
  (dss_cons (ds_set 6 nd (de_op op_sub (sim_I _) (de_callB call_lenA sim_len (by rfl) n_len bt_len (da_cons (dv 3) da_nil)) de_int))
  (dss_cons (ds_set 7 nd (de_lst (da_cons (de_calC C_law_drip hr hg (da_cons (dv 0) (da_cons (de_op op_addAll (sim_add false) (dv 6) de_int) da_nil))) (da_cons (dv 6) (da_cons de_int (da_cons (de_callB (call_maxA rfl) sim_max (by rfl) n_max bt_max (da_cons de_int (da_cons (de_op op_sub (sim_I _) (dv 6) (de_calC C_law_drip hr hg (da_cons (dv 0) (da_cons de_int da_nil)))) da_nil))) da_nil))))))
  (dss_cons (ds_set 7 nd (de_op op_addAll (sim_add false) (dv 7) (de_lst (da_cons (de_op op_mulAll (sim_mul false) (dv 6) (de_calC C_law_drip hr hg (da_cons (dv 0) (da_cons de_int da_nil)))) (da_cons (de_op op_div (sim_Ic _ _) (dv 6) de_int) da_nil)))))
  (dss_cons (ds_set 8 nd (de_if (dt_cmp (op_gt) (sim_B _) (de_calC C_law_drip hr hg (da_cons (dv 0) (da_cons de_int da_nil))) de_int (nomark _)) (de_ix (dv 7) (dv 4)) (de_calC C_law_drip hr hg (da_cons (dv 0) (da_cons (de_op op_addAll (sim_add false) (dv 6) de_int) da_nil)))))
  (dss_cons (ds_expr (de_meth PySem.F.slot_list_append PySem.F.type_list_append mt_append sim_append (dv 2) (da_cons (de_ix (dv 3) (dv 8)) da_nil)))
  (dss_one (ds_set 3 nd (de_op op_addAll (sim_add false) (de_sl false (dv 3) do_none (do_some (de_op op_addAll (sim_add false) (dv 8) de_int))) (de_lst (da_cons (dv 5) da_nil)))))))))))
  (dss_one (ds_ret (de_frz (dv 2))))))

/-! _law_crossing(links): 0 links, 1 entry, 2 other -/
abbrev s_law_crossing : Stmt := topS 32
abbrev N_law_crossing : List Str := ["links", "entry", "other"]
theorem sc_law_crossing : FnScope N_law_crossing ["links"] (defScope s_law_crossing) := ⟨rfl, rfl, rfl, by decide +kernel, rfl, by decide +kernel, by decide +kernel⟩
theorem ok_law_crossing {P : Program} {w : World} {K : PySem.W.Frag} {mg : Str → Option Value} {base : Heap} {a : ASp} (d : Dfn K mg "_law_crossing" s_law_crossing ["links"]) (n_len : mg "len" = none) (n_range : mg "range" = none)
    (len : ∀ us m Q, a us m Q → us.length = 1) (sem : ∀ us m Q, a us m Q → g_law_crossing  (endsD m.length Q) (startU 3 us) m) : Cal P w K mg base 1 "_law_crossing" ["links"] a := by
  refine Cal.mk' d sc_law_crossing len (fun f cdv A outer s H E hr hg => ?_) sem
  have nd := sc_law_crossing.nd
  unfold g_law_crossing b2_law_crossing b1_law_crossing
  exact (dss_cons (ds_for .never rfl (di_rng2 n_range (da_cons de_int (da_cons (de_callB call_lenA sim_len (by rfl) n_len bt_len (da_cons (dv 0) da_nil)) da_nil))) (dg_n 1 nd)
  (dss_one (ds_for .never rfl (di_rng2 n_range (da_cons (de_op op_addAll (sim_add false) (dv 1) de_int) (da_cons (de_callB call_lenA sim_len (by rfl) n_len bt_len (da_cons (dv 0) da_nil)) da_nil))) (dg_n 2 nd)
  (dss_one (ds_if (dt_chain (op_lt) (sim_B _) (op_lt) (sim_B _) (de_ix (dv 0) (dv 1)) (de_ix (dv 0) (dv 2)) (dv 1)) (dss_one (ds_ret (de_tup (da_cons (dv 1) (da_cons (dv 2) da_nil))))) dss_nil)))))
  (dss_one (ds_ret de_non)))

/-! _law_odd(): 0 some -/
abbrev s_law_odd : Stmt := topS 33
abbrev N_law_odd : List Str := ["some"]
theorem sc_law_odd : FnScope N_law_odd [] (defScope s_law_odd) := ⟨rfl, rfl, rfl, by decide +kernel, rfl, by decide +kernel, by decide +kernel⟩
theorem ok_law_odd {P : Program} {w : World} {K : PySem.W.Frag} {mg : Str → Option Value} {base : Heap} {a : ASp} (d : Dfn K mg "_law_odd" s_law_odd []) 
    (len : ∀ us m Q, a us m Q → us.length = 0) (sem : ∀ us m Q, a us m Q → g_law_odd  (endsD m.length Q) (startU 1 us) m) : Cal P w K mg base 1 "_law_odd" [] a := by
  refine Cal.mk' d sc_law_odd len (fun f cdv A outer s H E hr hg => ?_) sem
  have nd := sc_law_odd.nd
  unfold g_law_odd
  exact (dss_cons (ds_set 0 nd (de_lst (da_cons de_non (da_cons de_int (da_cons de_bl (da_cons de_str (da_cons de_str (da_cons (de_tup da_nil) (da_cons (de_tup (da_cons de_int da_nil)) (da_cons de_dict0 (da_cons (de_lst da_nil) (da_cons (de_lst (da_cons de_int da_nil)) (da_cons (de_lst (da_cons (de_un un_neg sim_neg de_int) da_nil)) (da_cons (de_lst (da_cons de_bl da_nil)) (da_cons (de_lst (da_cons de_bl da_nil)) (da_cons (de_lst (da_cons de_non da_nil)) (da_cons (de_lst (da_cons de_str da_nil)) (da_cons (de_lst (da_cons (de_lst (da_cons de_int da_nil)) da_nil)) (da_cons (de_lst (da_cons (de_tup (da_cons de_int da_nil)) da_nil)) da_nil)))))))))))))))))))
  (dss_cons (ds_set 0 nd (de_op op_addAll (sim_add false) (dv 0) (de_lst (da_cons (de_lst (da_cons de_int (da_cons de_int da_nil))) (da_cons (de_lst (da_cons de_int (da_cons (de_un un_neg sim_neg de_int) da_nil))) (da_cons (de_lst (da_cons de_int (da_cons de_int (da_cons de_int da_nil)))) (da_cons (de_lst (da_cons de_int (da_cons de_bl da_nil))) (da_cons (de_lst (da_cons de_int (da_cons de_bl da_nil))) (da_cons (de_lst (da_cons de_int (da_cons de_int (da_cons de_int (da_cons de_int da_nil))))) (da_cons (de_lst (da_cons de_int (da_cons de_non da_nil))) (da_cons (de_lst (da_cons de_int (da_cons de_str da_nil))) (da_cons de_dictI da_nil))))))))))))
  (dss_one (ds_ret (de_op op_addAll (sim_add false) (dv 0) (de_lst (da_cons (de_op op_mulAll (sim_mul false) (de_lst (da_cons de_int da_nil)) de_int) (da_cons (de_lst (da_cons de_int (da_cons de_int (da_cons de_int (da_cons de_int da_nil))))) (da_cons (de_tup (da_cons de_int (da_cons de_int da_nil))) (da_cons (de_lst (da_cons (de_lst (da_cons de_int (da_cons de_int da_nil))) da_nil)) (da_cons (de_lst (da_cons de_int (da_cons (de_lst (da_cons de_int da_nil)) da_nil))) (da_cons (de_lst (da_cons de_int (da_cons de_int (da_cons de_bl da_nil)))) da_nil))))))))))))

/-! _law_kind(e): 0 e, 1 some, 2 others, 3 names, 4 name, 5 so -/
abbrev s_law_kind : Stmt := topS 34
abbrev N_law_kind : List Str := ["e", "some", "others", "names", "name", "so"]
theorem sc_law_kind : FnScope N_law_kind ["e"] (defScope s_law_kind) := ⟨rfl, rfl, rfl, by decide +kernel, rfl, by decide +kernel, by decide +kernel⟩
theorem okh_law_kind {P : Program} {w : World} {K : PySem.W.Frag} {mg : Str → Option Value} {base : Heap} {a : ASp} (d : Dfn K mg "_law_kind" s_law_kind ["e"]) (n_isinstance : mg "isinstance" = none) (n_len : mg "len" = none) (n_ValueError : mg "ValueError" = none) (xt : ExT K mg ["InvalidLog", "InvalidEntry", "InvalidTarget", "InvalidChain", "InvalidNumber", "InvalidSize", "InvalidKnown", "InvalidPrices", "InvalidBase", "InvalidTag", "InvalidText", "InvalidCommand", "Different", "NothingToUndo"] ["BacklinkError", "InvalidLog", "InvalidEntry", "InvalidTarget", "InvalidChain", "InvalidNumber", "InvalidSize", "InvalidKnown", "InvalidPrices", "InvalidBase", "InvalidTag", "InvalidText", "InvalidCommand", "Different", "NothingToUndo", "Crossing", "InvalidChange"])
    (len : ∀ us m Q, a us m Q → us.length = 1) (sem : ∀ us m Q, a us m Q → g_law_kind  (endsD m.length Q) (startU 6 us) m) : CalH P w K mg base 1 "_law_kind" ["e"] a := by
  refine CalH.mk' d sc_law_kind len (fun f cdv A outer s H E pp hr hg hh => ?_) sem
  have nd := sc_law_kind.nd
  unfold g_law_kind
  exact (dss_cons (ds_set 1 nd (de_lst (da_cons (de_tup (da_cons de_str (da_cons (de_isx xt (by decide) (by decide) (dv 0) n_isinstance) da_nil))) (da_cons (de_tup (da_cons de_str (da_cons (de_isx xt (by decide) (by decide) (dv 0) n_isinstance) da_nil))) da_nil))))
  (dss_cons (ds_set 1 nd (de_op op_addAll (sim_add false) (dv 1) (de_lst (da_cons (de_tup (da_cons de_str (da_cons (de_isx xt (by decide) (by decide) (dv 0) n_isinstance) da_nil))) (da_cons (de_tup (da_cons de_str (da_cons (de_isx xt (by decide) (by decide) (dv 0) n_isinstance) da_nil))) da_nil)))))
  (dss_cons (ds_set 1 nd (de_op op_addAll (sim_add false) (dv 1) (de_lst (da_cons (de_tup (da_cons de_str (da_cons (de_isx xt (by decide) (by decide) (dv 0) n_isinstance) da_nil))) (da_cons (de_tup (da_cons de_str (da_cons (de_isx xt (by decide) (by decide) (dv 0) n_isinstance) da_nil))) da_nil)))))
  (dss_cons (ds_set 1 nd (de_op op_addAll (sim_add false) (dv 1) (de_lst (da_cons (de_tup (da_cons de_str (da_cons (de_isx xt (by decide) (by decide) (dv 0) n_isinstance) da_nil))) (da_cons (de_tup (da_cons de_str (da_cons (de_isx xt (by decide) (by decide) (dv 0) n_isinstance) da_nil))) da_nil)))))
  (dss_cons (ds_set 2 nd (de_isxT xt (by decide) (dv 0) n_isinstance (.cons (.cons (.cons (.cons (.cons (.cons .nil)))))) (by decide) (by decide)))
  (dss_cons (ds_set 2 nd (de_or (dv 2) (de_one (de_isxT xt (by decide) (dv 0) n_isinstance (.cons (.cons .nil)) (by decide) (by decide)))))
  (dss_cons (ds_setLcH 3 hh nd (sw_true rfl rfl rfl (by decide +kernel)) (dih_list (dv 1)) (blkOk_by (own := [("name", 4), ("so", 5)]) (N := N_law_kind) (sc := defScope s_law_kind) (by decide +kernel)) rfl (gown_2 4 5) (fun _ _ _ _ _ hh => (pg_tupH hh (pgs_cons (pg_name (i := 4) nd rfl (by first | exact Or.inl rfl | exact Or.inr rfl)) (pgs_cons (pg_name (i := 5) nd rfl (by first | exact Or.inl rfl | exact Or.inr rfl)) pgs_nil)))) (fun _ _ _ _ _ => (dts_one (dt_val (dv 5)))) (fun _ _ _ _ _ => (dv 4)))
  (dss_one (ds_ret (de_if (PW.pt (dw_and (dt_cmp (op_eqX hr.units) (sim_eq) (de_callB call_lenA sim_len (by rfl) n_len bt_len (da_cons (dv 3) da_nil)) de_int (nomark _)) (dw_and (dt_not (dt_val (dv 2))) (dw_and1 (dt_val (de_isxV xt (dv 0) n_isinstance n_ValueError)))))) (de_ix (dv 3) de_int) de_str))))))))))

/-! _law_raised(door, value): 0 door, 1 value, 2 kept, 3 found, 4 e -/
abbrev s_law_raised : Stmt := topS 35
abbrev N_law_raised : List Str := ["door", "value", "kept", "found", "e"]
theorem sc_law_raised : FnScope N_law_raised ["door", "value"] (defScope s_law_raised) := ⟨rfl, rfl, rfl, by decide +kernel, rfl, by decide +kernel, by decide +kernel⟩
def g_law_raised (a_law_kind : ASp) (ax_crossing_in ax_allowed_targets : AXp) : AS :=
  (dSeq (dPar2 2 3 (dCons (dCB aReprX (dCons (dVar 1) dNil)) (dCons (dC (.str "none")) dNil)))
  (dSeq (dTry ["InvalidLog", "InvalidEntry", "InvalidTarget", "InvalidChain", "InvalidNumber", "InvalidSize", "InvalidKnown", "InvalidPrices", "InvalidBase", "InvalidTag", "InvalidText", "InvalidCommand", "Different", "NothingToUndo"] (fun Xa => (dIfS (dB (dOp (aEq) (dVar 0) (dC (.int 0)))) (dExpr (rCall ax_crossing_in (dCons (dVar 1) dNil) Xa)) (dExpr (rCall ax_allowed_targets (dCons (dVar 1) dNil) Xa)))) "BacklinkError" 4 (dAsg 3 (dCall a_law_kind (dCons (dVar 4) dNil))))
  (dRet (dIf (dB (dOp (aEq) (dCB aReprX (dCons (dVar 1) dNil)) (dVar 2))) (dVar 3) (dC (.str "changed"))))))
theorem ok_law_raised {P : Program} {w : World} {K : PySem.W.Frag} {mg : Str → Option Value} {base : Heap} {a a_law_kind : ASp} {ax_crossing_in ax_allowed_targets : AXp} (d : Dfn K mg "_law_raised" s_law_raised ["door", "value"]) (H_law_kind : CalH P w K mg base 1 "_law_kind" ["e"] a_law_kind) (X_crossing_in : CalX P w K mg base 3 "crossing_in" ["value"] ax_crossing_in) (X_allowed_targets : CalX P w K mg base 5 "allowed_targets" ["links"] ax_allowed_targets) (n_repr : mg "repr" = none) (xt : ExT K mg ["InvalidLog", "InvalidEntry", "InvalidTarget", "InvalidChain", "InvalidNumber", "InvalidSize", "InvalidKnown", "InvalidPrices", "InvalidBase", "InvalidTag", "InvalidText", "InvalidCommand", "Different", "NothingToUndo"] ["BacklinkError", "InvalidLog", "InvalidEntry", "InvalidTarget", "InvalidChain", "InvalidNumber", "InvalidSize", "InvalidKnown", "InvalidPrices", "InvalidBase", "InvalidTag", "InvalidText", "InvalidCommand", "Different", "NothingToUndo", "Crossing", "InvalidChange"])
    (len : ∀ us m Q, a us m Q → us.length = 2) (sem : ∀ us m Q, a us m Q → g_law_raised a_law_kind ax_crossing_in ax_allowed_targets (endsD m.length Q) (startU 5 us) m) : Cal P w K mg base 6 "_law_raised" ["door", "value"] a := by
  refine Cal.mk' d sc_law_raised len (fun f cdv A outer s H E hr hg => ?_) sem
  have nd := sc_law_raised.nd
  unfold g_law_raised
  exact (dss_cons (ds_par2 2 3 rfl nd (da_cons (de_callB (call_reprX (u66 hr) hg) sim_reprX (by rfl) n_repr bt_repr (da_cons (dv 1) da_nil)) (da_cons de_str da_nil)))
  (dss_cons (ds_tryAsH xt (by decide) (by decide) nd (fun W pn xe tk own => (dxs_one (dx_if (dt_cmp (op_eqX hr.units) (sim_eq) (dv 0) de_int (nomark _)) (dxs_one (dx_expr (dr_cal X_crossing_in hr hg tk (da_cons (dv 1) da_nil)))) (dxs_one (dx_expr (dr_cal X_allowed_targets hr hg tk (da_cons (dv 1) da_nil))))))) (fun a oe hh => (dss_one (ds_set 3 nd (de_calH H_law_kind (roomHot hr) hg hh (da_cons (dv 4) da_nil))))))
  (dss_one (ds_ret (de_if (dt_cmp (op_eqX hr.units) (sim_eq) (de_callB (call_reprX (u66 hr) hg) sim_reprX (by rfl) n_repr bt_repr (da_cons (dv 1) da_nil)) (dv 2) (nomark _)) (dv 3) de_str)))))

/-! law(script): 0 script, 1 k, 2 vat, 3 links, 4 at, 5 one, 6 bad, 7 some, 8 due, 9 odd, 10 door, 11 entry, 12 value -/
abbrev s_law : Stmt := topS 36
abbrev N_law : List Str := ["script", "k", "vat", "links", "at", "one", "bad", "some", "due", "odd", "door", "entry", "value"]
theorem sc_law : FnScope N_law ["script"] (defScope s_law) := ⟨rfl, rfl, rfl, by decide +kernel, rfl, by decide +kernel, by decide +kernel⟩
def b1_law (a_law_vat a_law_log a_law_drip a_law_raised a_law_crossing a_law_odd : ASp) : AS :=
  (dSeq (dAsg 6 (dOp (aAdd false) (dOp (aAdd false) (dSl false (dVar 3) dNoPart (dPart (dVar 4))) (dLst (dCons (dVar 5) dNil))) (dSl false (dVar 3) (dPart (dOp (aAdd false) (dVar 4) (dC (.int 1)))) dNoPart)))
  (dIfS (dB (dOp (aNeX) (dLc (sRng1 (dCons (dC (.int 2)) dNil)) (gN 10) dYes (dCall a_law_raised (dCons (dVar 10) (dCons (dVar 6) dNil))) [10]) (dOp (aMul false) (dLst (dCons (dC (.str "InvalidLog")) dNil)) (dC (.int 2))))) (dRet (dC (.bool false))) dNext))
def b2_law (a_law_vat a_law_log a_law_drip a_law_raised a_law_crossing a_law_odd : ASp) : AS :=
  (dSeq (dAsg 2 (dCall a_law_vat (dCons (dVar 0) (dCons (dVar 1) dNil))))
  (dSeq (dAsg 3 (dCall a_law_log (dCons (dVar 2) (dCons (dOp (aAdd false) (dC (.int 2)) (dCall a_law_drip (dCons (dVar 2) (dCons (dC (.int 20)) dNil)))) dNil))))
  (dSeq (dAsg 4 (dCall a_law_drip (dCons (dVar 2) (dCons (dCB aLen (dCons (dVar 3) dNil)) dNil))))
  (dSeq (dFor (sList (dLst (dCons (dC .none) (dCons (dC (.bool true)) (dCons (dUn aNeg (dC (.int 1))) (dCons (dC (.str "0")) (dCons (dLst (dCons (dC (.int 0)) dNil)) (dCons (dCB aLen (dCons (dVar 3) dNil)) (dCons (dOp aPow (dC (.int 10)) (dC (.int 30))) (dCons (dC (.bool false)) (dCons (dTup (dCons (dC (.int 0)) dNil)) dNil))))))))))) (gN 5)
  (b1_law a_law_vat a_law_log a_law_drip a_law_raised a_law_crossing a_law_odd))
  (dSeq (dIfS (dB (dOp (aNeX) (dLc (sRng1 (dCons (dC (.int 2)) dNil)) (gN 10) dYes (dCall a_law_raised (dCons (dVar 10) (dCons (dVar 3) dNil))) [10]) (dOp (aMul false) (dLst (dCons (dC (.str "none")) dNil)) (dC (.int 2))))) (dRet (dC (.bool false))) dNext)
  (dSeq (dAsg 7 (dOp (aAdd false) (dLst (dCons (dC (.int 0)) dNil)) (dLc (sRng2 (dCons (dC (.int 1)) (dCons (dC (.int 12)) dNil))) (gN 11) dYes (dCall a_law_drip (dCons (dVar 2) (dCons (dVar 11) dNil))) [11])))
  (dSeq (dAsg 8 (dIf (dB (dIsN (dCall a_law_crossing (dCons (dVar 7) dNil)))) (dC (.str "none")) (dC (.str "InvalidLog"))))
  (dIfS (dB (dOp (aNeX) (dLst (dCons (dCall a_law_raised (dCons (dC (.int 0)) (dCons (dVar 7) dNil))) (dCons (dCall a_law_raised (dCons (dC (.int 1)) (dCons (dVar 7) dNil))) dNil))) (dLst (dCons (dC (.str "none")) (dCons (dVar 8) dNil))))) (dRet (dC (.bool false))) dNext))))))))
def g_law (a_law_vat a_law_log a_law_drip a_law_raised a_law_crossing a_law_odd : ASp) : AS :=
  (dSeq (dFor (sRng1 (dCons (dCB aMax (dCons (dC (.int 1)) (dCons (dCB aMin (dCons (dC (.int 5)) (dCons (dCB aLen (dCons (dVar 0) dNil)) dNil))) dNil))) dNil)) (gN 1)
  (b2_law a_law_vat a_law_log a_law_drip a_law_raised a_law_crossing a_law_odd))
  (dSeq (dAsg 9 (dLc (sList (dCall a_law_odd dNil)) (gN 12) (dB (dOp (aNeX) (dVar 12) (dLst (dCons (dC (.int 0)) (dCons (dC (.int 0)) (dCons (dC (.int 0)) (dCons (dC (.int 1)) dNil))))))) (dVar 12) [12]))
  (dSeq (dIfS (dB (dOp (aNeX) (dLc (sList (dVar 9)) (gN 12) (dB (dOp (aNeX) (dLst (dCons (dCall a_law_raised (dCons (dC (.int 0)) (dCons (dVar 12) dNil))) (dCons (dCall a_law_raised (dCons (dC (.int 1)) (dCons (dVar 12) dNil))) dNil))) (dOp (aMul false) (dLst (dCons (dC (.str "InvalidLog")) dNil)) (dC (.int 2))))) (dVar 12) [12]) (dLst dNil))) (dRet (dC (.bool false))) dNext)
  (dRet (dOp (aEq) (dLst (dCons (dCall a_law_raised (dCons (dC (.int 0)) (dCons (dLst (dCons (dC (.int 0)) (dCons (dC (.int 0)) (dCons (dC (.int 0)) (dCons (dC (.int 1)) dNil))))) dNil))) (dCons (dCall a_law_raised (dCons (dC (.int 1)) (dCons (dLst (dCons (dC (.int 0)) (dCons (dC (.int 0)) (dCons (dC (.int 0)) (dCons (dC (.int 1)) dNil))))) dNil))) dNil))) (dLst (dCons (dC (.str "none")) (dCons (dC (.str "InvalidLog")) dNil))))))))
theorem ok_law {P : Program} {w : World} {K : PySem.W.Frag} {mg : Str → Option Value} {base : Heap} {a a_law_vat a_law_log a_law_drip a_law_raised a_law_crossing a_law_odd : ASp} (d : Dfn K mg "law" s_law ["script"]) (C_law_vat : Cal P w K mg base 1 "_law_vat" ["script", "k"] a_law_vat) (C_law_log : Cal P w K mg base 2 "_law_log" ["vat", "size"] a_law_log) (C_law_drip : Cal P w K mg base 1 "_law_drip" ["vat", "many"] a_law_drip) (C_law_raised : Cal P w K mg base 6 "_law_raised" ["door", "value"] a_law_raised) (C_law_crossing : Cal P w K mg base 1 "_law_crossing" ["links"] a_law_crossing) (C_law_odd : Cal P w K mg base 1 "_law_odd" [] a_law_odd) (n_len : mg "len" = none) (n_min : mg "min" = none) (n_max : mg "max" = none) (n_range : mg "range" = none)
    (len : ∀ us m Q, a us m Q → us.length = 1) (sem : ∀ us m Q, a us m Q → g_law a_law_vat a_law_log a_law_drip a_law_raised a_law_crossing a_law_odd (endsD m.length Q) (startU 13 us) m) : Cal P w K mg base 7 "law" ["script"] a := by
  refine Cal.mk' d sc_law len (fun f cdv A outer s H E hr hg => ?_) sem
  have nd := sc_law.nd
  unfold g_law b2_law b1_law
  exact (dss_cons (ds_for .never rfl (di_rng1 n_range (da_cons (de_callB (call_maxA rfl) sim_max (by rfl) n_max bt_max (da_cons de_int (da_cons (de_callB (call_minA rfl) sim_min (by rfl) n_min bt_min (da_cons de_int (da_cons (de_callB call_lenA sim_len (by rfl) n_len bt_len (da_cons (dv 0) da_nil)) da_nil))) da_nil))) da_nil)) (dg_n 1 nd)
  (dss_cons (ds_set 2 nd (de_calC C_law_vat hr hg (da_cons (dv 0) (da_cons (dv 1) da_nil))))
  (dss_cons (ds_set 3 nd (de_calC C_law_log hr hg (da_cons (dv 2) (da_cons (de_op op_addAll (sim_add false) de_int (de_calC C_law_drip hr hg (da_cons (dv 2) (da_cons de_int da_nil)))) da_nil))))
  (dss_cons (ds_set 4 nd (de_calC C_law_drip hr hg (da_cons (dv 2) (da_cons (de_callB call_lenA sim_len (by rfl) n_len bt_len (da_cons (dv 3) da_nil)) da_nil))))
  (dss_cons (ds_for .never rfl (di_list (de_lst (da_cons de_non (da_cons de_bl (da_cons (de_un un_neg sim_neg de_int) (da_cons de_str (da_cons (de_lst (da_cons de_int da_nil)) (da_cons (de_callB call_lenA sim_len (by rfl) n_len bt_len (da_cons (dv 3) da_nil)) (da_cons (de_op op_powZ (sim_Ic _ _) de_int de_int) (da_cons de_bl (da_cons (de_tup (da_cons de_int da_nil)) da_nil))))))))))) (dg_n 5 nd)
  (dss_cons (ds_set 6 nd (de_op op_addAll (sim_add false) (de_op op_addAll (sim_add false) (de_sl false (dv 3) do_none (do_some (dv 4))) (de_lst (da_cons (dv 5) da_nil))) (de_sl false (dv 3) (do_some (de_op op_addAll (sim_add false) (dv 4) de_int)) do_none)))
  (dss_one (ds_if (dt_cmp (op_neY hr.units) (sim_neY) (de_lc rfl nd (di_rng1 n_range (da_cons de_int da_nil)) (blkOk_by (own := [("door", 10)]) (N := N_law) (sc := defScope s_law) (by decide +kernel)) rfl (gown_n 10) (fun _ _ _ _ _ => (pg_name (i := 10) nd rfl (by first | exact Or.inl rfl | exact Or.inr rfl))) (fun _ _ _ _ _ => dts_nil) (fun _ _ _ _ _ => (de_calC C_law_raised hr hg (da_cons (dv 10) (da_cons (dv 6) da_nil))))) (de_op op_mulAll (sim_mul false) (de_lst (da_cons de_str da_nil)) de_int) (nomark _)) (dss_one (ds_ret de_bl)) dss_nil))))
  (dss_cons (ds_if (dt_cmp (op_neY hr.units) (sim_neY) (de_lc rfl nd (di_rng1 n_range (da_cons de_int da_nil)) (blkOk_by (own := [("door", 10)]) (N := N_law) (sc := defScope s_law) (by decide +kernel)) rfl (gown_n 10) (fun _ _ _ _ _ => (pg_name (i := 10) nd rfl (by first | exact Or.inl rfl | exact Or.inr rfl))) (fun _ _ _ _ _ => dts_nil) (fun _ _ _ _ _ => (de_calC C_law_raised hr hg (da_cons (dv 10) (da_cons (dv 3) da_nil))))) (de_op op_mulAll (sim_mul false) (de_lst (da_cons de_str da_nil)) de_int) (nomark _)) (dss_one (ds_ret de_bl)) dss_nil)
  (dss_cons (ds_set 7 nd (de_op op_addAll (sim_add false) (de_lst (da_cons de_int da_nil)) (de_lc rfl nd (di_rng2 n_range (da_cons de_int (da_cons de_int da_nil))) (blkOk_by (own := [("entry", 11)]) (N := N_law) (sc := defScope s_law) (by decide +kernel)) rfl (gown_n 11) (fun _ _ _ _ _ => (pg_name (i := 11) nd rfl (by first | exact Or.inl rfl | exact Or.inr rfl))) (fun _ _ _ _ _ => dts_nil) (fun _ _ _ _ _ => (de_calC C_law_drip hr hg (da_cons (dv 2) (da_cons (dv 11) da_nil)))))))
  (dss_cons (ds_set 8 nd (de_if (dt_isN (de_calC C_law_crossing hr hg (da_cons (dv 7) da_nil))) de_str de_str))
  (dss_one (ds_if (dt_cmp (op_neY hr.units) (sim_neY) (de_lst (da_cons (de_calC C_law_raised hr hg (da_cons de_int (da_cons (dv 7) da_nil))) (da_cons (de_calC C_law_raised hr hg (da_cons de_int (da_cons (dv 7) da_nil))) da_nil))) (de_lst (da_cons de_str (da_cons (dv 8) da_nil))) (nomark _)) (dss_one (ds_ret de_bl)) dss_nil))))))))))
  (dss_cons (ds_setLc 9 rfl nd (sw_true rfl rfl rfl (by decide +kernel)) (di_list (de_calC0 C_law_odd hr hg)) (blkOk_by (own := [("value", 12)]) (N := N_law) (sc := defScope s_law) (by decide +kernel)) rfl (gown_n 12) (fun _ _ _ _ _ => (pg_name (i := 12) nd rfl (by first | exact Or.inl rfl | exact Or.inr rfl))) (fun _ _ _ _ _ => (dts_one (dt_cmp (op_neY hr.units) (sim_neY) (dv 12) (de_lst (da_cons de_int (da_cons de_int (da_cons de_int (da_cons de_int da_nil))))) (nomark _)))) (fun _ _ _ _ _ => (dv 12)))
  (dss_cons (ds_if (dt_cmp (op_neY hr.units) (sim_neY) (de_lc rfl nd (di_list (dv 9)) (blkOk_by (own := [("value", 12)]) (N := N_law) (sc := defScope s_law) (by decide +kernel)) rfl (gown_n 12) (fun _ _ _ _ _ => (pg_name (i := 12) nd rfl (by first | exact Or.inl rfl | exact Or.inr rfl))) (fun _ _ _ _ _ => (dts_one (dt_cmp (op_neY hr.units) (sim_neY) (de_lst (da_cons (de_calC C_law_raised hr hg (da_cons de_int (da_cons (dv 12) da_nil))) (da_cons (de_calC C_law_raised hr hg (da_cons de_int (da_cons (dv 12) da_nil))) da_nil))) (de_op op_mulAll (sim_mul false) (de_lst (da_cons de_str da_nil)) de_int) (nomark _)))) (fun _ _ _ _ _ => (dv 12))) (de_lst da_nil) (nomark _)) (dss_one (ds_ret de_bl)) dss_nil)
  (dss_one (ds_ret (de_cmp (op_eqX hr.units) (sim_eq) (de_lst (da_cons (de_calC C_law_raised hr hg (da_cons de_int (da_cons (de_lst (da_cons de_int (da_cons de_int (da_cons de_int (da_cons de_int da_nil))))) da_nil))) (da_cons (de_calC C_law_raised hr hg (da_cons de_int (da_cons (de_lst (da_cons de_int (da_cons de_int (da_cons de_int (da_cons de_int da_nil))))) da_nil))) da_nil))) (de_lst (da_cons de_str (da_cons de_str da_nil))) (nomark _)))))))
end Z.K04
-- gen: --sem.is_log=sem_is_logD --nex=law --semx.need_log=semx_need_logN
/-! S04: the semantics of the law's own defs. -/
namespace Z.K04
open PySem PySem.Spec PyProof.Rows L2 Z Z.P
local macro_rules | `(tactic| walk_at "ev") => `(tactic| try simp only [dSeq, dAsg, dVar, dC, dOp, dUn, dB, dChain, dAnd, dOr, dNot, dAndV, dOrV, dNotV, dIf, dNil, dCons, dLst, dLstM, dTup, dCB, dNext, dExpr, dRet, dRetN, dFrz, dIfS, dAsgG, dPar2, dPar3, dUnp, dMeth, dCall, dSl, dPart, dNoPart, dRev, dIsN, dNotN, dIsi, dSetIx, dLRg1, dLRg2, aSortedI, aExt2, dGet, dIn, dPut, dDctM0, dDctM1, dDct2, aDictP, nwD, dSortSet, dGet2, sRngD, dStep, dReprL, asDs, aExtend, aIndex, aCount, aCountB, dLRgD, dLRgZ, sZipT, dLZ, aMaxT, aMinT, dFn, dCallV, gIx, unL_lists, dTry, dTryO, rCall, rCallF, xRaise, xRaiseI, aEqNil, endX, dIsx, dIsxT, aCmpD, sRngS, aSortD, dLenSc, dSortSc, dAug, dFor, dWhile, dLc, dLcM, lcUM, dNever, dBreak, dCont, dYes, dPick,
  aAdd, aSub, aDiv, aMod, aPow, aI, aIc, aB, aMul, aNeg, aEq, aNe, aNeX, aBB, aIn, aIx, aLen, aMax, aMin, aAbs, aSum, aAll, aAny, aList, aTuple, aInt, aSorted, aRepr, aAppend, aPop, aPopAt, aReverse, aClear, nw, allD, isNone, sList, sTup, sEnumT, sRng1, sRng2, sEnum, sZip, gN, gN0, gN1, gT, startU, endsD, retD, wipeE, setAll, 
  List.map_cons, List.map_nil, List.length_cons, List.length_nil, List.cons_append, List.nil_append, List.replicate, List.getElem?_cons_zero, List.getElem?_cons_succ, List.set_cons_zero, List.set_cons_succ, Nat.reduceAdd, Nat.reduceSub, Nat.reduceLeDiff, Nat.zero_add, Nat.add_zero, List.take_length, if_true, if_false, decide_true, decide_false, Bool.false_eq_true, Bool.not_true, Bool.not_false, Option.isSome_some, Option.map_some, Option.map_none, Option.bind_some, List.append_nil, true_and, and_true, asI_map, asB_map, shE_i, shE_b, shE_n, shE_s, shE_l, shE_t, asL_r, asD_r, asD_v, asL_v, asQ_v, asQ_s, asS_v, asS_t, asS_s, asQ_r, asS_r])
def spx_crossing_in : AXp := fun us m Q X => ∃ u d, us = [u] ∧ asD m u = some d ∧ (if formD d = true then ∀ e : PyData, Q (.v e) m else X "InvalidLog" [] m)
theorem semx_crossing_in (us : List U) (m : Sto) (Q : QA) (X : XQ) (h : spx_crossing_in us m Q X) : x_crossing_in sp_have_form sp_least_crossing (endX m.length X) (endsD m.length Q) (startU 1 us) m := by
  obtain ⟨u, d, rfl, hd, q⟩ := h
  unfold x_crossing_in
  walk_at "ev"
  refine ⟨u, d, rfl, hd, ?_⟩
  cases c : formD d with
  | true =>
    rw [c] at q
    simp only [if_true] at q
    walk_at "ev"
    cases d with
    | list l =>
      obtain ⟨ns, rfl, hf⟩ := formL_ints c
      refine ⟨u, ns, rfl, asL_of_D hd, by have := hf.2.1; omega, ?_⟩
      walk_at "ev"
      exact q _
    | _ => cases c
  | false =>
    rw [c] at q
    simp only [Bool.false_eq_true, if_false] at q
    walk_at "ev"
    exact q
def spx_allowed_targets : AXp := fun us m Q X => ∃ u d, us = [u] ∧ asD m u = some d ∧ (if logD d = true then ∀ e : PyData, Q (.v e) m else X "InvalidLog" [] m)
theorem semx_allowed_targets (us : List U) (m : Sto) (Q : QA) (X : XQ) (h : spx_allowed_targets us m Q X) : x_allowed_targets sp_targets_of spx_need_logN (endX m.length X) (endsD m.length Q) (startU 1 us) m := by
  obtain ⟨u, d, rfl, hd, q⟩ := h
  unfold x_allowed_targets
  walk_at "ev"
  refine ⟨u, d, rfl, hd, ?_⟩
  cases c : logD d with
  | true =>
    rw [c] at q
    simp only [if_true] at q
    walk_at "ev"
    obtain ⟨ns, rfl, hn⟩ := logD_isN c
    refine ⟨u, ns, rfl, asL_of_D hd, fun z => ?_, by have := hn.1.2.1; omega, ?_⟩
    · have := hn.1.1
      rw [z] at this
      simp at this
    walk_at "ev"
    exact q _
  | false =>
    rw [c] at q
    simp only [Bool.false_eq_true, if_false] at q
    walk_at "ev"
    exact q
/-- what a call tells -/
def toldB (door : Int) (d : PyData) : Bool := if door = 0 then formD d else logD d
def told (door : Int) (d : PyData) : Str := if toldB door d = true then "none" else "InvalidLog"
def sp_law_raised : ASp := fun us m Q => ∃ (door : Int) (d : PyData), us = [.v (.int door), .v d] ∧ ReprX d ∧ Q (.v (.str (told door d))) m
theorem sem_law_raised (us : List U) (m : Sto) (Q : QA) (h : sp_law_raised us m Q) : g_law_raised sp_kind4 spx_crossing_in spx_allowed_targets (endsD m.length Q) (startU 5 us) m := by
  obtain ⟨door, d, rfl, hR, q⟩ := h
  unfold g_law_raised
  refine seq_of (fun E1 m1 => E1 = [some (.v (.int door)), some (.v d), some (.v (.str d.shown)), some (.v (.str "none")), none] ∧ m1 = m) ?_ fun J hJ => ?_
  case refine_2 =>
    walk_at "ev"
    refine ⟨hR.1, hR.2.1, hR.2.2, ?_⟩
    walk_at "ev"
    exact hJ _ _ ⟨rfl, rfl⟩
  rintro E1 m1 ⟨rfl, rfl⟩
  refine seq_of (fun E1 m2 => ∃ x, E1 = [some (.v (.int door)), some (.v d), some (.v (.str d.shown)), some (.v (.str (told door d))), x] ∧ m2 = m1) ?_ fun J hJ => ?_
  · rintro E1 m2 ⟨x, rfl, rfl⟩
    walk_at "ev"
    refine ⟨hR.1, hR.2.1, hR.2.2, ?_⟩
    walk_at "ev"
    simp only [eqv_str]
    walk_at "ev"
    exact q
  · have exc : toldB door d = false → (Str.ofString "InvalidLog" ∈ (["InvalidLog", "InvalidEntry", "InvalidTarget", "InvalidChain", "InvalidNumber", "InvalidSize", "InvalidKnown", "InvalidPrices", "InvalidBase", "InvalidTag", "InvalidText", "InvalidCommand", "Different", "NothingToUndo"] : List Str) ∧ subNm "InvalidLog" "BacklinkError" = true ∧ sp_kind4 [.o (.exc "InvalidLog" [])] m1 fun u m2 =>
        J [some (.v (.int door)), some (.v d), some (.v (.str d.shown)), some u, none] m2) := fun e => by
      refine ⟨by decide +kernel, by decide +kernel, _, _, rfl, .inl rfl, hJ _ _ ⟨none, ?_, rfl⟩⟩
      unfold told
      rw [e]
      rfl
    have fine : toldB door d = true → J [some (.v (.int door)), some (.v d), some (.v (.str d.shown)), some (.v (.str "none")), none] m1 := fun e => hJ _ _ ⟨none, by unfold told; rw [e]; rfl, rfl⟩
    walk_at "ev"
    simp only [eqv_ii]
    by_cases c : door = 0
    · subst c
      simp only [decide_true, if_true]
      refine ⟨_, d, rfl, rfl, ?_⟩
      have e : toldB 0 d = formD d := rfl
      cases c2 : formD d with
      | true => simp only [if_true]; exact fun _ => fine (e.trans c2)
      | false => simp only [Bool.false_eq_true, if_false]; exact exc (e.trans c2)
    · simp only [c, decide_false, Bool.false_eq_true, if_false]
      refine ⟨_, d, rfl, rfl, ?_⟩
      have e : toldB door d = logD d := if_neg c
      cases c2 : logD d with
      | true => simp only [if_true]; exact fun _ => fine (e.trans c2)
      | false => simp only [Bool.false_eq_true, if_false]; exact exc (e.trans c2)
theorem told_bad {d : PyData} (h : formD d = false) (door : Int) : told door d = "InvalidLog" := by
  have : toldB door d = false := by
    unfold toldB
    split
    · exact h
    · exact logD_form h
  unfold told
  rw [this]
  rfl
theorem form_of_log {ns : List Int} (h : LogP ns) : formD (.list (ns.map .int)) = true := (formL_iff ns).mpr h.1
theorem told_log {ns : List Int} (h : LogP ns) (door : Int) : told door (.list (ns.map .int)) = "none" := by
  have : toldB door (.list (ns.map .int)) = true := by
    unfold toldB
    split
    · exact form_of_log h
    · rw [logD_ints]; exact (logI_iff ns).mpr h
  unfold told
  rw [this]
  rfl
/-- the two doors at one value -/
theorem doors {E : En} {m : Sto} {i : Nat} {d : PyData} {w : Str} (h13 : E.length = 13) (hi : E[i]? = some (some (.v d))) (i10 : i ≠ 10) (hR : ReprX d) (hk : ∀ door : Int, told door d = w) (K : QA) (q : K (.v (.list (List.replicate 2 (.str w)))) m) :
    dLc (sRng1 (dCons (dC (.int 2)) dNil)) (gN 10) dYes (dCall sp_law_raised (dCons (dVar 10) (dCons (dVar i) dNil))) [10] E m K := by
  refine ⟨by decide, by decide, ?_⟩
  rw [show rngU 0 (Int.toNat 2) = _ from rngU_nat 0 2]
  refine lcU_map (fun (j : Nat) => U.v (.int (j : Int))) (fun _ => true) (fun _ => PyData.str w) trivial _ [] (by simp) (fun j hj K1 K2 q1 q2 => ?_) ?_
  · have hl : (wipeE E [10]).length = 13 := by simp [wipeE, h13]
    have h1 : ((wipeE E [10]).set 10 (some (U.v (.int (j : Int)))))[10]? = some (some (.v (.int (j : Int)))) := List.getElem?_set_self (by omega)
    have h2 : ((wipeE E [10]).set 10 (some (U.v (.int (j : Int)))))[i]? = some (some (.v d)) := by rw [List.getElem?_set_ne (Ne.symm i10)]; simp only [wipeE]; rw [List.getElem?_set_ne (Ne.symm i10)]; exact hi
    unfold gN dYes dCall dCons dVar dNil
    simp only [h1, h2, if_true]
    refine ⟨j, d, rfl, hR, ?_⟩
    rw [hk]
    exact q1 rfl
  · rw [List.nil_append, filter_true, List.map_const', List.length_range']
    exact q
theorem doors_if {D : AEnds} {E : En} {m : Sto} {i : Nat} {d : PyData} {w : Str} (h13 : E.length = 13) (hi : E[i]? = some (some (.v d))) (i10 : i ≠ 10) (hR : ReprX d) (hk : ∀ door : Int, told door d = w) (he : PyData.eqv (.list [.str w, .str w]) (.list [.str w, .str w]) = true) (hs : SeqAt.shaped (.list [.str w, .str w]) = true) (h : D.nx E m) :
    dIfS (dB (dOp aNe (dLc (sRng1 (dCons (dC (.int 2)) dNil)) (gN 10) dYes (dCall sp_law_raised (dCons (dVar 10) (dCons (dVar i) dNil))) [10]) (dOp (aMul false) (dLst (dCons (dC (.str w)) dNil)) (dC (.int 2))))) (dRet (dC (.bool false))) dNext D E m := by
  unfold dIfS dB dOp
  refine doors h13 hi i10 hR hk _ ?_
  walk_at "ev"
  refine ⟨by decide, by decide, by decide, by decide, ?_⟩
  have e2 : (List.replicate (Int.toNat 2) [PyData.str w]).flatten = [.str w, .str w] := rfl
  have e3 : List.replicate 2 (PyData.str w) = [.str w, .str w] := rfl
  simp only [e2, e3, shE_l]
  refine ⟨hs, hs, ?_⟩
  rw [he]
  exact h
/-- an item that is no link makes a value that has not the form -/
theorem bad_form {l r : List PyData} {x : PyData} (h : isInt x 0 (max 0 ((l.length : Int) - 1)) = false) : formD (.list (l ++ [x] ++ r)) = false := by
  show formL _ = false
  refine Bool.eq_false_iff.mpr fun z => ?_
  unfold formL at z
  simp only [Bool.and_eq_true, List.all_eq_true] at z
  have := z.2 (x, l.length) (by
    rw [List.mem_zipIdx_iff_getElem?, List.append_assoc, List.getElem?_append_right (Nat.le_refl _)]
    simp)
  rw [h] at this
  cases this
theorem rep_form {ns : List Int} (h : FormP ns) : ReprX (.list (ns.map .int)) := (form_repr h).x.ok (by decide) (by decide) (by decide)
theorem bad_repr {ns : List Int} (h : FormP ns) {x : PyData} (hx : Shw 41 1 200 x) (a b : Option Int) : ReprX (.list (cutD (ns.map .int) none a ++ [x] ++ cutD (ns.map .int) b none)) := by
  have g := Gd.ints (L := 150) h.2.1 fun i hi => by have := form_mem h hi; omega
  exact (((g.cut none a).app (Gd.one hx)).app (g.cut b none)).list (by decide) |>.x.ok (by decide) (by decide) (by decide)
theorem one_loop {D : AEnds} {V t : Nat} {ns : List Int} (hn : LogP ns) (ht : t < ns.length) {e0 e1 e7 e8 e9 e11 e12 : Option U} {m : Sto} (hD : ∀ x5 x6 x10, D.nx [e0, e1, some (.r V), some (.v (.list (ns.map .int))), some (.v (.int (t : Int))), x5, x6, e7, e8, e9, x10, e11, e12] m) :
    ∀ (ds : List PyData) (x5 x6 x10 : Option U), (∀ d ∈ ds, Shw 41 1 200 d ∧ isInt d 0 (max 0 ((t : Int) - 1)) = false) →
    forU (fun _ => True) (gN 5) (b1_law sp_law_vat sp_law_log sp_law_drip sp_law_raised sp_law_crossing sp_law_odd) D (ds.map U.v) [e0, e1, some (.r V), some (.v (.list (ns.map .int))), some (.v (.int (t : Int))), x5, x6, e7, e8, e9, x10, e11, e12] m
  | [], x5, x6, x10, _ => ⟨trivial, hD _ _ _⟩
  | d :: ds, x5, x6, x10, hd => by
    obtain ⟨h1, h2⟩ := hd d List.mem_cons_self
    refine ⟨trivial, ?_⟩
    unfold b1_law
    have hz := hn.1.2.1
    have lt : (cutD (ns.map PyData.int) none (some (t : Int))).length = t := by rw [cutD_to, List.length_take, List.length_map]; omega
    have lr : (cutD (ns.map PyData.int) (some ((t : Int) + 1)) none).length ≤ 150 := by have := cutD_len (ns.map PyData.int) (some ((t : Int) + 1)) none; rw [List.length_map] at this; omega
    refine seq_of (fun E1 m1 => E1 = [e0, e1, some (.r V), some (.v (.list (ns.map .int))), some (.v (.int (t : Int))), some (.v d), some (.v (.list (cutD (ns.map .int) none (some (t : Int)) ++ [d] ++ cutD (ns.map .int) (some ((t : Int) + 1)) none))), e7, e8, e9, x10, e11, e12] ∧ m1 = m) ?_ fun J hJ => ?_
    · rintro E1 m1 ⟨rfl, rfl⟩
      refine doors_if (i := 6) rfl rfl (by decide) (bad_repr hn.1 h1 _ _) (told_bad (bad_form (by rw [lt]; exact h2))) (by decide +kernel) (by decide +kernel) ?_
      exact one_loop hn ht hD ds _ _ _ fun e he => hd e (List.mem_cons_of_mem _ he)
    · walk_at "ev"
      refine ⟨by decide, by rw [lt, sizeLine_eq]; simp; omega, by rw [List.length_append, lt, sizeLine_eq]; simp; omega, ?_⟩
      exact hJ _ _ ⟨rfl, rfl⟩
theorem isInt_no {d : PyData} (h : ∀ i, d ≠ .int i) (lo hi : Int) : isInt d lo hi = false := by
  cases d <;> first | rfl | exact absurd rfl (h _)
theorem some_if {D : AEnds} {E : En} {m : Sto} {ns : List Int} (hf : FormP ns) (h7 : E[7]? = some (some (.v (.list (ns.map .int))))) (h8 : E[8]? = some (some (.v (.str (told 1 (.list (ns.map .int))))))) (h : D.nx E m) :
    dIfS (dB (dOp (aNe) (dLst (dCons (dCall sp_law_raised (dCons (dC (.int 0)) (dCons (dVar 7) dNil))) (dCons (dCall sp_law_raised (dCons (dC (.int 1)) (dCons (dVar 7) dNil))) dNil))) (dLst (dCons (dC (.str "none")) (dCons (dVar 8) dNil))))) (dRet (dC (.bool false))) dNext D E m := by
  have t0 : told 0 (.list (ns.map .int)) = "none" := by
    unfold told toldB
    rw [if_pos rfl, show formD (.list (ns.map .int)) = true from (formL_iff ns).mpr hf]
    rfl
  have eq : ∀ w : Str, w = "none" ∨ w = "InvalidLog" → PyData.eqv (.list [.str "none", .str w]) (.list [.str "none", .str w]) = true ∧ SeqAt.shaped (.list [.str "none", .str w]) = true := by
    rintro w (rfl | rfl) <;> exact ⟨by decide +kernel, by decide +kernel⟩
  obtain ⟨e1, e2⟩ := eq (told 1 (.list (ns.map .int))) (by unfold told; split <;> simp)
  unfold dIfS dB dOp dLst dCons dCall dC dVar dNil
  simp only [h7, h8]
  refine ⟨0, _, rfl, rep_form hf, 1, _, rfl, rep_form hf, ?_⟩
  rw [t0]
  walk_at "ev"
  refine ⟨by decide, by decide, ?_⟩
  simp only [shE_l, e2, e1]
  walk_at "ev"
  exact h
theorem ones_ok {t S : Nat} (ht : t < S) (hS : S ≤ 150) : ∀ d ∈ [PyData.none, .bool true, .int (-1), .str "0", .list [.int 0], .int (S : Int), .int (10 ^ (30 : Int).toNat), .bool false, .tuple [.int 0]], Shw 41 1 200 d ∧ isInt d 0 (max 0 ((t : Int) - 1)) = false := by
  have p40 : (10 : Nat) ^ 40 = 10000000000000000000000000000000000000000 := by decide
  have it : ∀ i : Int, i.natAbs < 10 ^ 40 → Shw 41 1 200 (.int i) := fun i h => (Shw.int (B := 41) 40 (by decide) (by decide) (by decide) h).mono (by decide) (by decide)
  have one : ∀ e ∈ [PyData.int 0], Shw 41 0 160 e := fun e he => by
    obtain rfl : e = .int 0 := by simpa using he
    exact Shw.int (B := 41) 40 (by decide) (by decide) (by decide) (by decide)
  intro d hd
  simp only [List.mem_cons, List.not_mem_nil, or_false] at hd
  rcases hd with rfl | rfl | rfl | rfl | rfl | rfl | rfl | rfl | rfl
  · exact ⟨Shw.none.mono (by decide) (by decide), rfl⟩
  · exact ⟨(Shw.bool _).mono (by decide) (by decide), rfl⟩
  · exact ⟨it _ (by decide), by simp [P.isInt]⟩
  · exact ⟨(Shw.str (by decide +kernel)).mono (by decide) (by decide +kernel), rfl⟩
  · exact ⟨(Shw.list (L := 1) one (by simp)).mono (by decide) (by decide), rfl⟩
  · exact ⟨it _ (by rw [p40]; omega), by simp [P.isInt]; omega⟩
  · exact ⟨it _ (by decide), by
      have e : (10 : Int) ^ (30 : Int).toNat = 1000000000000000000000000000000 := by decide
      rw [e]
      simp [P.isInt]
      omega⟩
  · exact ⟨(Shw.bool _).mono (by decide) (by decide), rfl⟩
  · exact ⟨(Shw.tuple (L := 1) one (by simp)).mono (by decide) (by decide), rfl⟩
theorem b2_step {D : AEnds} {e0 : U} {zs : List Int} (he : e0 = .s zs) (a : Nat) (ha : a < 10) (m : Sto) (x2 x3 x4 x5 x6 x7 x8 x9 x10 x11 x12 : Option U)
    (h : ∀ m' y2 y3 y4 y5 y6 y7 y8 y9 y10 y11 y12, D.nx [some e0, some (.v (.int (a : Int))), y2, y3, y4, y5, y6, y7, y8, y9, y10, y11, y12] m') :
    b2_law sp_law_vat sp_law_log sp_law_drip sp_law_raised sp_law_crossing sp_law_odd D [some e0, some (.v (.int (a : Int))), x2, x3, x4, x5, x6, x7, x8, x9, x10, x11, x12] m := by
  unfold b2_law
  refine seq_of (fun E1 m1 => E1 = [some e0, some (.v (.int (a : Int))), some (.r m.length), x3, x4, x5, x6, x7, x8, x9, x10, x11, x12] ∧ Vt m.length 0 m1) ?_ fun J hJ => ?_
  case refine_2 =>
    subst he
    walk_at "ev"
    exact ⟨zs, a, rfl, by omega, by omega, fun c hV => hJ _ _ ⟨rfl, hV⟩⟩
  generalize m.length = V
  rintro E1 m1 ⟨rfl, hV⟩
  refine seq_of (fun E1 m2 => ∃ ns : List Int, LogP ns ∧ 2 ≤ ns.length ∧ E1 = [some e0, some (.v (.int (a : Int))), some (.r V), some (.v (.list (ns.map .int))), x4, x5, x6, x7, x8, x9, x10, x11, x12] ∧ Vt V 2001 m2) ?_ fun J hJ => ?_
  case refine_2 =>
    walk_at "ev"
    refine ⟨V, 0, 20, rfl, hV, by omega, ⟨by decide, .inl (by decide)⟩, fun r m2 g1 g2 gl1 gF1 hV1 => ?_⟩
    walk_at "ev"
    refine ⟨V, 1, _, rfl, hV1, by omega, by omega, by omega, fun ns m3 hn hl gl gF hV2 => ?_⟩
    exact hJ _ _ ⟨ns, hn, by omega, rfl, hV2⟩
  rintro E1 m2 ⟨ns, hn, h2n, rfl, hV1⟩
  have hz := hn.1.2.1
  refine seq_of (fun E1 m3 => ∃ t : Nat, t < ns.length ∧ E1 = [some e0, some (.v (.int (a : Int))), some (.r V), some (.v (.list (ns.map .int))), some (.v (.int (t : Int))), x5, x6, x7, x8, x9, x10, x11, x12] ∧ Vt V 2002 m3) ?_ fun J hJ => ?_
  case refine_2 =>
    walk_at "ev"
    simp only [List.length_map]
    refine ⟨V, 2001, _, rfl, hV1, by omega, ⟨by omega, .inl (by omega)⟩, fun r m2 g1 g2 gl1 gF1 hV2 => ?_⟩
    exact hJ _ _ ⟨r.toNat, by omega, by rw [Int.toNat_of_nonneg g1], hV2⟩
  rintro E1 m3 ⟨t, ht, rfl, hV2⟩
  refine seq_of (fun E1 m4 => ∃ y5 y6 y10, E1 = [some e0, some (.v (.int (a : Int))), some (.r V), some (.v (.list (ns.map .int))), some (.v (.int (t : Int))), y5, y6, x7, x8, x9, y10, x11, x12] ∧ Vt V 2002 m4) ?_ fun J hJ => ?_
  case refine_2 =>
    unfold dFor
    walk_at "ev"
    simp only [List.length_map]
    repeat refine ⟨by decide, ?_⟩
    refine ⟨pw10 (by decide) (by decide), by decide, ?_⟩
    refine ⟨by decide, ?_⟩
    refine one_loop hn ht ?hh [PyData.none, .bool true, .int (-1), .str "0", .list [.int 0], .int (ns.length : Int), .int (10 ^ (30 : Int).toNat), .bool false, .tuple [.int 0]] _ _ _ (ones_ok ht hz)
    case hh => exact fun y5 y6 y10 => hJ _ _ ⟨_, _, _, rfl, hV2⟩
  rintro E1 m4 ⟨y5, y6, y10, rfl, hV3⟩
  refine seq_of (fun E1 m5 => E1 = [some e0, some (.v (.int (a : Int))), some (.r V), some (.v (.list (ns.map .int))), some (.v (.int (t : Int))), y5, y6, x7, x8, x9, y10, x11, x12] ∧ Vt V 2002 m5) ?_ fun J hJ => ?_
  case refine_2 =>
    exact doors_if (i := 3) rfl rfl (by decide) (rep_form hn.1) (told_log hn) (by decide +kernel) (by decide +kernel) (hJ _ _ ⟨rfl, hV3⟩)
  rintro E1 m5 ⟨rfl, hV4⟩
  refine seq_of (fun E1 m6 => ∃ os : List Int, FormP os ∧ E1 = [some e0, some (.v (.int (a : Int))), some (.r V), some (.v (.list (ns.map .int))), some (.v (.int (t : Int))), y5, y6, some (.v (.list (os.map .int))), x8, x9, y10, x11, x12]) ?_ fun J hJ => ?_
  case refine_2 =>
    unfold dLc
    walk_at "ev"
    refine ⟨by decide, by decide, ?_⟩
    rw [show rngU 1 (12 - 1 : Int).toNat = _ from rngU_nat 1 11]
    refine lc_drips (E := [some e0, some (.v (.int (a : Int))), some (.r V), some (.v (.list (ns.map .int))), some (.v (.int (t : Int))), y5, y6, x7, x8, x9, y10, none, x12]) (s := 11) (v := 2) (V := V) rfl (by simp) (by decide) 11 1 [] 2002 m5 (by omega) (by omega) (by simp) hV4 (by omega) fun ds m' d1 d2 dl dF dV => ?_
    walk_at "ev"
    refine ⟨by rw [List.length_map, d1]; decide, ?_⟩
    exact hJ _ _ ⟨0 :: ds, form_draws (by omega) (fun i hi => d2 i (by omega)), rfl⟩
  rintro E1 m6 ⟨os, hf, rfl⟩
  refine seq_of (fun E1 m7 => E1 = [some e0, some (.v (.int (a : Int))), some (.r V), some (.v (.list (ns.map .int))), some (.v (.int (t : Int))), y5, y6, some (.v (.list (os.map .int))), some (.v (.str (told 1 (.list (os.map .int))))), x9, y10, x11, x12]) ?_ fun J hJ => ?_
  case refine_2 =>
    walk_at "ev"
    refine ⟨_, os, rfl, rfl, by have := hf.2.1; omega, ?_⟩
    rw [firstX1_eq (form_nonneg hf)]
    have tb : toldB 1 (.list (os.map .int)) = (firstX os).isNone := by
      show logD (.list (os.map .int)) = _
      rw [logD_ints]
      unfold logI
      rw [(formL_iff os).mpr hf]
      rfl
    cases hx : firstX os with
    | none =>
      have e1 : told 1 (.list (os.map .int)) = Str.ofString "none" := by unfold told; rw [tb, hx]; rfl
      rw [e1] at hJ
      exact hJ _ _ rfl
    | some p =>
      have e1 : told 1 (.list (os.map .int)) = Str.ofString "InvalidLog" := by unfold told; rw [tb, hx]; rfl
      rw [e1] at hJ
      exact hJ _ _ rfl
  rintro E1 m7 rfl
  exact some_if hf rfl rfl (h _ _ _ _ _ _ _ _ _ _ _ _)
theorem k_loop {D : AEnds} {e0 : U} {zs : List Int} (he : e0 = .s zs) (hD : ∀ y1 y2 y3 y4 y5 y6 y7 y8 y9 y10 y11 y12 m, D.nx [some e0, y1, y2, y3, y4, y5, y6, y7, y8, y9, y10, y11, y12] m) : ∀ (n a : Nat) (m : Sto) (x1 x2 x3 x4 x5 x6 x7 x8 x9 x10 x11 x12 : Option U), a + n ≤ 10 →
    forU (fun _ => True) (gN 1) (b2_law sp_law_vat sp_law_log sp_law_drip sp_law_raised sp_law_crossing sp_law_odd) D ((List.range' a n).map fun (j : Nat) => U.v (.int (j : Int))) [some e0, x1, x2, x3, x4, x5, x6, x7, x8, x9, x10, x11, x12] m
  | 0, a, m, x1, x2, x3, x4, x5, x6, x7, x8, x9, x10, x11, x12, _ => ⟨trivial, hD _ _ _ _ _ _ _ _ _ _ _ _ _⟩
  | n + 1, a, m, x1, x2, x3, x4, x5, x6, x7, x8, x9, x10, x11, x12, hn => by
    rw [List.range'_succ, List.map_cons]
    refine ⟨trivial, ?_⟩
    refine b2_step he a (by omega) _ _ _ _ _ _ _ _ _ _ _ _ fun m' y2 y3 y4 y5 y6 y7 y8 y9 y10 y11 y12 => ?_
    exact k_loop he hD n (a + 1) m' _ _ _ _ _ _ _ _ _ _ _ _ (by omega)
def L4 : PyData := .list [.int 0, .int 0, .int 0, .int 1]
def keepB (d : PyData) : Bool := match d with
  | .dict _ => true
  | d => !PyData.eqv d L4
theorem ne_odd {d : PyData} (hd : d ∈ oddL) {m : Sto} {Q : QA} (q : Q (.v (.bool (keepB d))) m) : aNeX (.v d) (.v L4) m Q := by
  have h : (oddL.all fun d => match d with
      | .dict _ => true
      | d => shE d L4 && shE L4 d) = true := by decide +kernel
  have h := List.all_eq_true.mp h d hd
  cases d with
  | dict l => exact q
  | _ =>
    simp only [Bool.and_eq_true] at h
    exact ⟨h.1, h.2, q⟩
theorem odd_repr {d : PyData} (hd : d ∈ oddL) : ReprX d := by
  have h : (oddL.all fun d => d.showable && decide (d.depth ≤ 64) && decide (d.shown.length ≤ sizeLine)) = true := by decide +kernel
  have h := List.all_eq_true.mp h d hd
  simp only [Bool.and_eq_true, decide_eq_true_eq] at h
  exact ⟨h.1.1, h.1.2, h.2⟩
theorem odd_form {d : PyData} (hd : d ∈ oddL.filter keepB) : formD d = false := by
  have h : ((oddL.filter keepB).all fun d => !formD d) = true := by decide +kernel
  simpa using List.all_eq_true.mp h d hd
theorem tail_step {Q : QA} {e0 y1 y2 y3 y4 y5 y6 y7 y8 y10 y11 y12 : Option U} {m : Sto} {l : List PyData} (hl : ∀ d ∈ l, ReprX d ∧ formD d = false) (hz : l.length ≤ 1000) (q : Q (.v (.bool true)) []) :
    (dSeq (dIfS (dB (dOp (aNeX) (dLc (sList (dVar 9)) (gN 12) (dB (dOp (aNeX) (dLst (dCons (dCall sp_law_raised (dCons (dC (.int 0)) (dCons (dVar 12) dNil))) (dCons (dCall sp_law_raised (dCons (dC (.int 1)) (dCons (dVar 12) dNil))) dNil))) (dOp (aMul false) (dLst (dCons (dC (.str "InvalidLog")) dNil)) (dC (.int 2))))) (dVar 12) [12]) (dLst dNil))) (dRet (dC (.bool false))) dNext)
      (dRet (dOp (aEq) (dLst (dCons (dCall sp_law_raised (dCons (dC (.int 0)) (dCons (dLst (dCons (dC (.int 0)) (dCons (dC (.int 0)) (dCons (dC (.int 0)) (dCons (dC (.int 1)) dNil))))) dNil))) (dCons (dCall sp_law_raised (dCons (dC (.int 1)) (dCons (dLst (dCons (dC (.int 0)) (dCons (dC (.int 0)) (dCons (dC (.int 0)) (dCons (dC (.int 1)) dNil))))) dNil))) dNil))) (dLst (dCons (dC (.str "none")) (dCons (dC (.str "InvalidLog")) dNil))))))
      (endsD 0 Q) [e0, y1, y2, y3, y4, y5, y6, y7, y8, some (.v (.list l)), y10, y11, y12] m := by
  refine seq_of (fun E1 m2 => E1 = [e0, y1, y2, y3, y4, y5, y6, y7, y8, some (.v (.list l)), y10, y11, y12]) ?_ fun J hJ => ?_
  case refine_2 =>
    unfold dIfS dB dOp dLc sList
    walk_at "ev"
    refine lcU_map U.v (fun _ => false) (fun d => d) trivial l [] (by simp; omega) (fun d hd K1 K2 q1 q2 => ?_) ?_
    · obtain ⟨h1, h2⟩ := hl d hd
      walk_at "ev"
      refine ⟨0, d, rfl, h1, 1, d, rfl, h1, ?_⟩
      simp only [told_bad h2]
      walk_at "ev"
      refine ⟨by decide, by decide, by decide, by decide, by decide, by decide +kernel, by decide +kernel, ?_⟩
      have e2 : (PyData.list [PyData.str (Str.ofString "InvalidLog"), PyData.str (Str.ofString "InvalidLog")]).eqv (PyData.list (List.replicate (Int.toNat 2) [PyData.str (Str.ofString "InvalidLog")]).flatten) = true := by decide +kernel
      rw [e2]
      exact q2 rfl
    · have e0 : l.filter (fun _ => false) = [] := by simp
      rw [e0]
      refine ⟨by decide, ?_⟩
      have s0 : SeqAt.shaped (.list []) = true := by decide +kernel
      have eq0 : PyData.eqv (.list []) (.list []) = true := by decide +kernel
      walk_at "ev"
      simp only [s0, eq0]
      walk_at "ev"
      exact hJ _ _ rfl
  rintro E1 m3 rfl
  walk_at "ev"
  have r4 : ReprX (.list [.int 0, .int 0, .int 0, .int 1]) := ⟨by decide +kernel, by decide +kernel, by decide +kernel⟩
  refine ⟨by decide, 0, _, rfl, r4, by decide, 1, _, rfl, r4, ?_⟩
  have t0 : told 0 (.list [.int 0, .int 0, .int 0, .int 1]) = "none" := by decide +kernel
  have t1 : told 1 (.list [.int 0, .int 0, .int 0, .int 1]) = "InvalidLog" := by decide +kernel
  rw [t0, t1]
  walk_at "ev"
  refine ⟨by decide, by decide, by decide +kernel, by decide +kernel, ?_⟩
  have e3 : (PyData.list [PyData.str (Str.ofString "none"), PyData.str (Str.ofString "InvalidLog")]).eqv (PyData.list [PyData.str (Str.ofString "none"), PyData.str (Str.ofString "InvalidLog")]) = true := by decide +kernel
  rw [e3]
  exact q
theorem sem_law (us : List U) (m : Sto) (Q : QA) (h : spLaw us m Q) : g_law sp_law_vat sp_law_log sp_law_drip sp_law_raised sp_law_crossing sp_law_odd (endsD m.length Q) (startU 13 us) m := by
  obtain ⟨ns, rfl, hl, hb, rfl, q⟩ := h
  unfold g_law
  refine seq_of (fun E1 m1 => ∃ y1 y2 y3 y4 y5 y6 y7 y8 y9 y10 y11 y12, E1 = [some (.s ns), y1, y2, y3, y4, y5, y6, y7, y8, y9, y10, y11, y12]) ?_ fun J hJ => ?_
  case refine_2 =>
    walk_at "ev"
    simp only [List.length_map]
    generalize hk : (if (if (ns.length : Int) < 5 then (ns.length : Int) else 5) > 1 then if (ns.length : Int) < 5 then (ns.length : Int) else 5 else 1) = kk
    have h5 : 0 ≤ kk ∧ kk ≤ 5 := by rw [← hk]; constructor <;> split <;> split <;> omega
    refine ⟨by omega, by omega, ?_⟩
    rw [show rngU 0 kk.toNat = _ from rngU_nat 0 _]
    exact k_loop rfl (fun y1 y2 y3 y4 y5 y6 y7 y8 y9 y10 y11 y12 m => hJ _ _ ⟨_, _, _, _, _, _, _, _, _, _, _, _, rfl⟩) _ _ _ _ _ _ _ _ _ _ _ _ _ _ _ (by omega)
  rintro E1 m1 ⟨y1, y2, y3, y4, y5, y6, y7, y8, y9, y10, y11, y12, rfl⟩
  refine seq_of (fun E1 m2 => E1 = [some (.s ns), y1, y2, y3, y4, y5, y6, y7, y8, some (.v (.list (oddL.filter keepB))), y10, y11, y12]) ?_ fun J hJ => ?_
  case refine_2 =>
    unfold dAsg dLc sList
    refine ⟨rfl, ?_⟩
    refine lcU_map U.v keepB (fun d => d) trivial oddL [] (by decide) (fun d hd K1 K2 q1 q2 => ?_) ?_
    · unfold dB dOp
      walk_at "ev"
      refine ⟨by decide, ?_⟩
      have key := ne_odd (m := m1) (Q := fun u m => match u with
        | .v (.bool b) => if b = true then K1 d m else K2 m
        | _ => False) hd (by
          cases c : keepB d with
          | true => exact q1 c
          | false => exact q2 c)
      unfold aNeX aNe L4 at key
      exact key
    · rw [List.nil_append, List.map_id']
      exact hJ _ _ rfl
  rintro E1 m2 rfl
  exact tail_step (fun d hd => ⟨odd_repr (List.mem_filter.mp hd).1, odd_form hd⟩) (Nat.le_trans (List.length_filter_le _ _) (by decide)) q
end Z.K04
/-! printed by gen.py: the end of law_k04_errors_of_links -/
namespace Z.K04
open PySem PySem.Spec PyProof.Rows L2 Z Z.P
theorem fin {P : Program} {w : World} {K : PySem.W.Frag} {h : Heap} {mg : Str → Option Value} {f_is_integer f_have_form f_least_crossing f_is_log f_need_log f_crossing_in f_targets_of f_allowed_targets f_law_vat f_law_drip f_law_log f_law_crossing f_law_odd f_law_kind f_law_raised f_law : Addr} (X : K.In h) (G : h.Ns mainGlobals mg)
    {od_is_integer an_is_integer : Option Addr} {sl_is_integer : Array (Option Value)} {oc_is_integer kV_is_integer dc_is_integer pm_is_integer cd_is_integer ct_is_integer : Value}
    (a_is_integer : PySem.W.nsIn K mainGlobals "is_integer" = some (some (.ref f_is_integer))) (l_is_integer : K.lookup f_is_integer = some ⟨oc_is_integer, od_is_integer, .func (PySem.W.fnOf "is_integer" "is_integer" (defArgs s_is_integer) (defBody s_is_integer) (defScope s_is_integer) .none kV_is_integer dc_is_integer pm_is_integer an_is_integer cd_is_integer ct_is_integer), sl_is_integer⟩) (c_is_integer : PySem.W.codeIn K cd_is_integer "is_integer" = true) (k_is_integer : PySem.W.keepIn K (.ref f_is_integer) = true)
    {od_have_form an_have_form : Option Addr} {sl_have_form : Array (Option Value)} {oc_have_form kV_have_form dc_have_form pm_have_form cd_have_form ct_have_form : Value}
    (a_have_form : PySem.W.nsIn K mainGlobals "have_form" = some (some (.ref f_have_form))) (l_have_form : K.lookup f_have_form = some ⟨oc_have_form, od_have_form, .func (PySem.W.fnOf "have_form" "have_form" (defArgs s_have_form) (defBody s_have_form) (defScope s_have_form) .none kV_have_form dc_have_form pm_have_form an_have_form cd_have_form ct_have_form), sl_have_form⟩) (c_have_form : PySem.W.codeIn K cd_have_form "have_form" = true) (k_have_form : PySem.W.keepIn K (.ref f_have_form) = true)
    {od_least_crossing an_least_crossing : Option Addr} {sl_least_crossing : Array (Option Value)} {oc_least_crossing kV_least_crossing dc_least_crossing pm_least_crossing cd_least_crossing ct_least_crossing : Value}
    (a_least_crossing : PySem.W.nsIn K mainGlobals "least_crossing" = some (some (.ref f_least_crossing))) (l_least_crossing : K.lookup f_least_crossing = some ⟨oc_least_crossing, od_least_crossing, .func (PySem.W.fnOf "least_crossing" "least_crossing" (defArgs s_least_crossing) (defBody s_least_crossing) (defScope s_least_crossing) .none kV_least_crossing dc_least_crossing pm_least_crossing an_least_crossing cd_least_crossing ct_least_crossing), sl_least_crossing⟩) (c_least_crossing : PySem.W.codeIn K cd_least_crossing "least_crossing" = true) (k_least_crossing : PySem.W.keepIn K (.ref f_least_crossing) = true)
    {od_is_log an_is_log : Option Addr} {sl_is_log : Array (Option Value)} {oc_is_log kV_is_log dc_is_log pm_is_log cd_is_log ct_is_log : Value}
    (a_is_log : PySem.W.nsIn K mainGlobals "is_log" = some (some (.ref f_is_log))) (l_is_log : K.lookup f_is_log = some ⟨oc_is_log, od_is_log, .func (PySem.W.fnOf "is_log" "is_log" (defArgs s_is_log) (defBody s_is_log) (defScope s_is_log) .none kV_is_log dc_is_log pm_is_log an_is_log cd_is_log ct_is_log), sl_is_log⟩) (c_is_log : PySem.W.codeIn K cd_is_log "is_log" = true) (k_is_log : PySem.W.keepIn K (.ref f_is_log) = true)
    {od_need_log an_need_log : Option Addr} {sl_need_log : Array (Option Value)} {oc_need_log kV_need_log dc_need_log pm_need_log cd_need_log ct_need_log : Value}
    (a_need_log : PySem.W.nsIn K mainGlobals "need_log" = some (some (.ref f_need_log))) (l_need_log : K.lookup f_need_log = some ⟨oc_need_log, od_need_log, .func (PySem.W.fnOf "need_log" "need_log" (defArgs s_need_log) (defBody s_need_log) (defScope s_need_log) .none kV_need_log dc_need_log pm_need_log an_need_log cd_need_log ct_need_log), sl_need_log⟩) (c_need_log : PySem.W.codeIn K cd_need_log "need_log" = true) (k_need_log : PySem.W.keepIn K (.ref f_need_log) = true)
    {od_crossing_in an_crossing_in : Option Addr} {sl_crossing_in : Array (Option Value)} {oc_crossing_in kV_crossing_in dc_crossing_in pm_crossing_in cd_crossing_in ct_crossing_in : Value}
    (a_crossing_in : PySem.W.nsIn K mainGlobals "crossing_in" = some (some (.ref f_crossing_in))) (l_crossing_in : K.lookup f_crossing_in = some ⟨oc_crossing_in, od_crossing_in, .func (PySem.W.fnOf "crossing_in" "crossing_in" (defArgs s_crossing_in) (defBody s_crossing_in) (defScope s_crossing_in) .none kV_crossing_in dc_crossing_in pm_crossing_in an_crossing_in cd_crossing_in ct_crossing_in), sl_crossing_in⟩) (c_crossing_in : PySem.W.codeIn K cd_crossing_in "crossing_in" = true) (k_crossing_in : PySem.W.keepIn K (.ref f_crossing_in) = true)
    {od_targets_of an_targets_of : Option Addr} {sl_targets_of : Array (Option Value)} {oc_targets_of kV_targets_of dc_targets_of pm_targets_of cd_targets_of ct_targets_of : Value}
    (a_targets_of : PySem.W.nsIn K mainGlobals "targets_of" = some (some (.ref f_targets_of))) (l_targets_of : K.lookup f_targets_of = some ⟨oc_targets_of, od_targets_of, .func (PySem.W.fnOf "targets_of" "targets_of" (defArgs s_targets_of) (defBody s_targets_of) (defScope s_targets_of) .none kV_targets_of dc_targets_of pm_targets_of an_targets_of cd_targets_of ct_targets_of), sl_targets_of⟩) (c_targets_of : PySem.W.codeIn K cd_targets_of "targets_of" = true) (k_targets_of : PySem.W.keepIn K (.ref f_targets_of) = true)
    {od_allowed_targets an_allowed_targets : Option Addr} {sl_allowed_targets : Array (Option Value)} {oc_allowed_targets kV_allowed_targets dc_allowed_targets pm_allowed_targets cd_allowed_targets ct_allowed_targets : Value}
    (a_allowed_targets : PySem.W.nsIn K mainGlobals "allowed_targets" = some (some (.ref f_allowed_targets))) (l_allowed_targets : K.lookup f_allowed_targets = some ⟨oc_allowed_targets, od_allowed_targets, .func (PySem.W.fnOf "allowed_targets" "allowed_targets" (defArgs s_allowed_targets) (defBody s_allowed_targets) (defScope s_allowed_targets) .none kV_allowed_targets dc_allowed_targets pm_allowed_targets an_allowed_targets cd_allowed_targets ct_allowed_targets), sl_allowed_targets⟩) (c_allowed_targets : PySem.W.codeIn K cd_allowed_targets "allowed_targets" = true) (k_allowed_targets : PySem.W.keepIn K (.ref f_allowed_targets) = true)
    {od_law_vat an_law_vat : Option Addr} {sl_law_vat : Array (Option Value)} {oc_law_vat kV_law_vat dc_law_vat pm_law_vat cd_law_vat ct_law_vat : Value}
    (a_law_vat : PySem.W.nsIn K mainGlobals "_law_vat" = some (some (.ref f_law_vat))) (l_law_vat : K.lookup f_law_vat = some ⟨oc_law_vat, od_law_vat, .func (PySem.W.fnOf "_law_vat" "_law_vat" (defArgs s_law_vat) (defBody s_law_vat) (defScope s_law_vat) .none kV_law_vat dc_law_vat pm_law_vat an_law_vat cd_law_vat ct_law_vat), sl_law_vat⟩) (c_law_vat : PySem.W.codeIn K cd_law_vat "_law_vat" = true) (k_law_vat : PySem.W.keepIn K (.ref f_law_vat) = true)
    {od_law_drip an_law_drip : Option Addr} {sl_law_drip : Array (Option Value)} {oc_law_drip kV_law_drip dc_law_drip pm_law_drip cd_law_drip ct_law_drip : Value}
    (a_law_drip : PySem.W.nsIn K mainGlobals "_law_drip" = some (some (.ref f_law_drip))) (l_law_drip : K.lookup f_law_drip = some ⟨oc_law_drip, od_law_drip, .func (PySem.W.fnOf "_law_drip" "_law_drip" (defArgs s_law_drip) (defBody s_law_drip) (defScope s_law_drip) .none kV_law_drip dc_law_drip pm_law_drip an_law_drip cd_law_drip ct_law_drip), sl_law_drip⟩) (c_law_drip : PySem.W.codeIn K cd_law_drip "_law_drip" = true) (k_law_drip : PySem.W.keepIn K (.ref f_law_drip) = true)
    {od_law_log an_law_log : Option Addr} {sl_law_log : Array (Option Value)} {oc_law_log kV_law_log dc_law_log pm_law_log cd_law_log ct_law_log : Value}
    (a_law_log : PySem.W.nsIn K mainGlobals "_law_log" = some (some (.ref f_law_log))) (l_law_log : K.lookup f_law_log = some ⟨oc_law_log, od_law_log, .func (PySem.W.fnOf "_law_log" "_law_log" (defArgs s_law_log) (defBody s_law_log) (defScope s_law_log) .none kV_law_log dc_law_log pm_law_log an_law_log cd_law_log ct_law_log), sl_law_log⟩) (c_law_log : PySem.W.codeIn K cd_law_log "_law_log" = true) (k_law_log : PySem.W.keepIn K (.ref f_law_log) = true)
    {od_law_crossing an_law_crossing : Option Addr} {sl_law_crossing : Array (Option Value)} {oc_law_crossing kV_law_crossing dc_law_crossing pm_law_crossing cd_law_crossing ct_law_crossing : Value}
    (a_law_crossing : PySem.W.nsIn K mainGlobals "_law_crossing" = some (some (.ref f_law_crossing))) (l_law_crossing : K.lookup f_law_crossing = some ⟨oc_law_crossing, od_law_crossing, .func (PySem.W.fnOf "_law_crossing" "_law_crossing" (defArgs s_law_crossing) (defBody s_law_crossing) (defScope s_law_crossing) .none kV_law_crossing dc_law_crossing pm_law_crossing an_law_crossing cd_law_crossing ct_law_crossing), sl_law_crossing⟩) (c_law_crossing : PySem.W.codeIn K cd_law_crossing "_law_crossing" = true) (k_law_crossing : PySem.W.keepIn K (.ref f_law_crossing) = true)
    {od_law_odd an_law_odd : Option Addr} {sl_law_odd : Array (Option Value)} {oc_law_odd kV_law_odd dc_law_odd pm_law_odd cd_law_odd ct_law_odd : Value}
    (a_law_odd : PySem.W.nsIn K mainGlobals "_law_odd" = some (some (.ref f_law_odd))) (l_law_odd : K.lookup f_law_odd = some ⟨oc_law_odd, od_law_odd, .func (PySem.W.fnOf "_law_odd" "_law_odd" (defArgs s_law_odd) (defBody s_law_odd) (defScope s_law_odd) .none kV_law_odd dc_law_odd pm_law_odd an_law_odd cd_law_odd ct_law_odd), sl_law_odd⟩) (c_law_odd : PySem.W.codeIn K cd_law_odd "_law_odd" = true) (k_law_odd : PySem.W.keepIn K (.ref f_law_odd) = true)
    {od_law_kind an_law_kind : Option Addr} {sl_law_kind : Array (Option Value)} {oc_law_kind kV_law_kind dc_law_kind pm_law_kind cd_law_kind ct_law_kind : Value}
    (a_law_kind : PySem.W.nsIn K mainGlobals "_law_kind" = some (some (.ref f_law_kind))) (l_law_kind : K.lookup f_law_kind = some ⟨oc_law_kind, od_law_kind, .func (PySem.W.fnOf "_law_kind" "_law_kind" (defArgs s_law_kind) (defBody s_law_kind) (defScope s_law_kind) .none kV_law_kind dc_law_kind pm_law_kind an_law_kind cd_law_kind ct_law_kind), sl_law_kind⟩) (c_law_kind : PySem.W.codeIn K cd_law_kind "_law_kind" = true) (k_law_kind : PySem.W.keepIn K (.ref f_law_kind) = true)
    {od_law_raised an_law_raised : Option Addr} {sl_law_raised : Array (Option Value)} {oc_law_raised kV_law_raised dc_law_raised pm_law_raised cd_law_raised ct_law_raised : Value}
    (a_law_raised : PySem.W.nsIn K mainGlobals "_law_raised" = some (some (.ref f_law_raised))) (l_law_raised : K.lookup f_law_raised = some ⟨oc_law_raised, od_law_raised, .func (PySem.W.fnOf "_law_raised" "_law_raised" (defArgs s_law_raised) (defBody s_law_raised) (defScope s_law_raised) .none kV_law_raised dc_law_raised pm_law_raised an_law_raised cd_law_raised ct_law_raised), sl_law_raised⟩) (c_law_raised : PySem.W.codeIn K cd_law_raised "_law_raised" = true) (k_law_raised : PySem.W.keepIn K (.ref f_law_raised) = true)
    {od_law an_law : Option Addr} {sl_law : Array (Option Value)} {oc_law kV_law dc_law pm_law cd_law ct_law : Value}
    (a_law : PySem.W.nsIn K mainGlobals "law" = some (some (.ref f_law))) (l_law : K.lookup f_law = some ⟨oc_law, od_law, .func (PySem.W.fnOf "law" "law" (defArgs s_law) (defBody s_law) (defScope s_law) .none kV_law dc_law pm_law an_law cd_law ct_law), sl_law⟩) (c_law : PySem.W.codeIn K cd_law "law" = true) (k_law : PySem.W.keepIn K (.ref f_law) = true)
    (z_ValueError : PySem.W.nsIn K mainGlobals "ValueError" = some none)
    (z_abs : PySem.W.nsIn K mainGlobals "abs" = some none)
    (z_all : PySem.W.nsIn K mainGlobals "all" = some none)
    (z_bool : PySem.W.nsIn K mainGlobals "bool" = some none)
    (z_enumerate : PySem.W.nsIn K mainGlobals "enumerate" = some none)
    (z_int : PySem.W.nsIn K mainGlobals "int" = some none)
    (z_isinstance : PySem.W.nsIn K mainGlobals "isinstance" = some none)
    (z_len : PySem.W.nsIn K mainGlobals "len" = some none)
    (z_list : PySem.W.nsIn K mainGlobals "list" = some none)
    (z_max : PySem.W.nsIn K mainGlobals "max" = some none)
    (z_min : PySem.W.nsIn K mainGlobals "min" = some none)
    (z_range : PySem.W.nsIn K mainGlobals "range" = some none)
    (z_repr : PySem.W.nsIn K mainGlobals "repr" = some none)
    {t_MOST_ENTRIES : _} (q_MOST_ENTRIES : PySem.W.nsIn K mainGlobals "MOST_ENTRIES" = some (some (.int 150 t_MOST_ENTRIES)))
    (xtab : exTab K ["InvalidLog", "InvalidEntry", "InvalidTarget", "InvalidChain", "InvalidNumber", "InvalidSize", "InvalidKnown", "InvalidPrices", "InvalidBase", "InvalidTag", "InvalidText", "InvalidCommand", "Different", "NothingToUndo"] ["BacklinkError", "InvalidLog", "InvalidEntry", "InvalidTarget", "InvalidChain", "InvalidNumber", "InvalidSize", "InvalidKnown", "InvalidPrices", "InvalidBase", "InvalidTag", "InvalidText", "InvalidCommand", "Different", "NothingToUndo", "Crossing", "InvalidChange"] = true)
    (base : Heap) : Cal P w K mg base 7 "law" ["script"] spLaw := by
  have n_ValueError : mg "ValueError" = none := PySem.W.mg_none_of X G z_ValueError
  have n_abs : mg "abs" = none := PySem.W.mg_none_of X G z_abs
  have n_all : mg "all" = none := PySem.W.mg_none_of X G z_all
  have n_bool : mg "bool" = none := PySem.W.mg_none_of X G z_bool
  have n_enumerate : mg "enumerate" = none := PySem.W.mg_none_of X G z_enumerate
  have n_int : mg "int" = none := PySem.W.mg_none_of X G z_int
  have n_isinstance : mg "isinstance" = none := PySem.W.mg_none_of X G z_isinstance
  have n_len : mg "len" = none := PySem.W.mg_none_of X G z_len
  have n_list : mg "list" = none := PySem.W.mg_none_of X G z_list
  have n_max : mg "max" = none := PySem.W.mg_none_of X G z_max
  have n_min : mg "min" = none := PySem.W.mg_none_of X G z_min
  have n_range : mg "range" = none := PySem.W.mg_none_of X G z_range
  have n_repr : mg "repr" = none := PySem.W.mg_none_of X G z_repr
  have p_MOST_ENTRIES := PySem.W.mg_of X G q_MOST_ENTRIES
  have xt : ExT K mg ["InvalidLog", "InvalidEntry", "InvalidTarget", "InvalidChain", "InvalidNumber", "InvalidSize", "InvalidKnown", "InvalidPrices", "InvalidBase", "InvalidTag", "InvalidText", "InvalidCommand", "Different", "NothingToUndo"] ["BacklinkError", "InvalidLog", "InvalidEntry", "InvalidTarget", "InvalidChain", "InvalidNumber", "InvalidSize", "InvalidKnown", "InvalidPrices", "InvalidBase", "InvalidTag", "InvalidText", "InvalidCommand", "Different", "NothingToUndo", "Crossing", "InvalidChange"] := ⟨xtab, fun n v q => PySem.W.mg_of X G q⟩
  have D_is_integer := Dfn.mk' (x := "is_integer") (st := s_is_integer) (ps := ["value", "low", "high"]) X G a_is_integer l_is_integer c_is_integer k_is_integer (fun _ _ _ _ _ _ us hl => match us, hl with | [_, _, _], _ => rfl)
  have C_is_integer := ok_is_integer (P := P) (w := w) (base := base) D_is_integer n_isinstance n_int n_bool (by intro us m Q h; first | (obtain ⟨rfl, _⟩ := h; rfl) | (obtain ⟨_, rfl, _⟩ := h; rfl) | (obtain ⟨_, _, rfl, _⟩ := h; rfl) | (obtain ⟨_, _, _, rfl, _⟩ := h; rfl) | (obtain ⟨_, _, _, _, rfl, _⟩ := h; rfl) | (obtain ⟨_, _, _, _, _, rfl, _⟩ := h; rfl) | (obtain ⟨_, _, _, _, _, _, rfl, _⟩ := h; rfl) | (obtain ⟨_, _, _, _, _, _, _, rfl, _⟩ := h; rfl) | (obtain ⟨_, _, _, _, _, _, _, _, rfl, _⟩ := h; rfl)) sem_is_integer
  have D_least_crossing := Dfn.mk' (x := "least_crossing") (st := s_least_crossing) (ps := ["links"]) X G a_least_crossing l_least_crossing c_least_crossing k_least_crossing (fun _ _ _ _ _ _ us hl => match us, hl with | [_], _ => rfl)
  have C_least_crossing := ok_least_crossing (P := P) (w := w) (base := base) D_least_crossing n_enumerate n_len n_range (by intro us m Q h; first | (obtain ⟨rfl, _⟩ := h; rfl) | (obtain ⟨_, rfl, _⟩ := h; rfl) | (obtain ⟨_, _, rfl, _⟩ := h; rfl) | (obtain ⟨_, _, _, rfl, _⟩ := h; rfl) | (obtain ⟨_, _, _, _, rfl, _⟩ := h; rfl) | (obtain ⟨_, _, _, _, _, rfl, _⟩ := h; rfl) | (obtain ⟨_, _, _, _, _, _, rfl, _⟩ := h; rfl) | (obtain ⟨_, _, _, _, _, _, _, rfl, _⟩ := h; rfl) | (obtain ⟨_, _, _, _, _, _, _, _, rfl, _⟩ := h; rfl)) sem_least_crossing
  have D_targets_of := Dfn.mk' (x := "targets_of") (st := s_targets_of) (ps := ["links"]) X G a_targets_of l_targets_of c_targets_of k_targets_of (fun _ _ _ _ _ _ us hl => match us, hl with | [_], _ => rfl)
  have C_targets_of := ok_targets_of (P := P) (w := w) (base := base) D_targets_of n_enumerate (by intro us m Q h; first | (obtain ⟨rfl, _⟩ := h; rfl) | (obtain ⟨_, rfl, _⟩ := h; rfl) | (obtain ⟨_, _, rfl, _⟩ := h; rfl) | (obtain ⟨_, _, _, rfl, _⟩ := h; rfl) | (obtain ⟨_, _, _, _, rfl, _⟩ := h; rfl) | (obtain ⟨_, _, _, _, _, rfl, _⟩ := h; rfl) | (obtain ⟨_, _, _, _, _, _, rfl, _⟩ := h; rfl) | (obtain ⟨_, _, _, _, _, _, _, rfl, _⟩ := h; rfl) | (obtain ⟨_, _, _, _, _, _, _, _, rfl, _⟩ := h; rfl)) sem_targets_of
  have D_law_vat := Dfn.mk' (x := "_law_vat") (st := s_law_vat) (ps := ["script", "k"]) X G a_law_vat l_law_vat c_law_vat k_law_vat (fun _ _ _ _ _ _ us hl => match us, hl with | [_, _], _ => rfl)
  have C_law_vat := ok_law_vat (P := P) (w := w) (base := base) D_law_vat n_len n_abs n_max (by intro us m Q h; first | (obtain ⟨rfl, _⟩ := h; rfl) | (obtain ⟨_, rfl, _⟩ := h; rfl) | (obtain ⟨_, _, rfl, _⟩ := h; rfl) | (obtain ⟨_, _, _, rfl, _⟩ := h; rfl) | (obtain ⟨_, _, _, _, rfl, _⟩ := h; rfl) | (obtain ⟨_, _, _, _, _, rfl, _⟩ := h; rfl) | (obtain ⟨_, _, _, _, _, _, rfl, _⟩ := h; rfl) | (obtain ⟨_, _, _, _, _, _, _, rfl, _⟩ := h; rfl) | (obtain ⟨_, _, _, _, _, _, _, _, rfl, _⟩ := h; rfl)) sem_law_vat
  have D_law_drip := Dfn.mk' (x := "_law_drip") (st := s_law_drip) (ps := ["vat", "many"]) X G a_law_drip l_law_drip c_law_drip k_law_drip (fun _ _ _ _ _ _ us hl => match us, hl with | [_, _], _ => rfl)
  have C_law_drip := ok_law_drip (P := P) (w := w) (base := base) D_law_drip  (by intro us m Q h; first | (obtain ⟨rfl, _⟩ := h; rfl) | (obtain ⟨_, rfl, _⟩ := h; rfl) | (obtain ⟨_, _, rfl, _⟩ := h; rfl) | (obtain ⟨_, _, _, rfl, _⟩ := h; rfl) | (obtain ⟨_, _, _, _, rfl, _⟩ := h; rfl) | (obtain ⟨_, _, _, _, _, rfl, _⟩ := h; rfl) | (obtain ⟨_, _, _, _, _, _, rfl, _⟩ := h; rfl) | (obtain ⟨_, _, _, _, _, _, _, rfl, _⟩ := h; rfl) | (obtain ⟨_, _, _, _, _, _, _, _, rfl, _⟩ := h; rfl)) sem_law_drip
  have D_law_crossing := Dfn.mk' (x := "_law_crossing") (st := s_law_crossing) (ps := ["links"]) X G a_law_crossing l_law_crossing c_law_crossing k_law_crossing (fun _ _ _ _ _ _ us hl => match us, hl with | [_], _ => rfl)
  have C_law_crossing := ok_law_crossing (P := P) (w := w) (base := base) D_law_crossing n_len n_range (by intro us m Q h; first | (obtain ⟨rfl, _⟩ := h; rfl) | (obtain ⟨_, rfl, _⟩ := h; rfl) | (obtain ⟨_, _, rfl, _⟩ := h; rfl) | (obtain ⟨_, _, _, rfl, _⟩ := h; rfl) | (obtain ⟨_, _, _, _, rfl, _⟩ := h; rfl) | (obtain ⟨_, _, _, _, _, rfl, _⟩ := h; rfl) | (obtain ⟨_, _, _, _, _, _, rfl, _⟩ := h; rfl) | (obtain ⟨_, _, _, _, _, _, _, rfl, _⟩ := h; rfl) | (obtain ⟨_, _, _, _, _, _, _, _, rfl, _⟩ := h; rfl)) sem_law_crossing
  have D_law_odd := Dfn.mk' (x := "_law_odd") (st := s_law_odd) (ps := []) X G a_law_odd l_law_odd c_law_odd k_law_odd (fun _ _ _ _ _ _ us hl => match us, hl with | [], _ => rfl)
  have C_law_odd := ok_law_odd (P := P) (w := w) (base := base) D_law_odd  (by intro us m Q h; first | (obtain ⟨rfl, _⟩ := h; rfl) | (obtain ⟨_, rfl, _⟩ := h; rfl) | (obtain ⟨_, _, rfl, _⟩ := h; rfl) | (obtain ⟨_, _, _, rfl, _⟩ := h; rfl) | (obtain ⟨_, _, _, _, rfl, _⟩ := h; rfl) | (obtain ⟨_, _, _, _, _, rfl, _⟩ := h; rfl) | (obtain ⟨_, _, _, _, _, _, rfl, _⟩ := h; rfl) | (obtain ⟨_, _, _, _, _, _, _, rfl, _⟩ := h; rfl) | (obtain ⟨_, _, _, _, _, _, _, _, rfl, _⟩ := h; rfl)) sem_law_odd
  have D_law_kind := Dfn.mk' (x := "_law_kind") (st := s_law_kind) (ps := ["e"]) X G a_law_kind l_law_kind c_law_kind k_law_kind (fun _ _ _ _ _ _ us hl => match us, hl with | [_], _ => rfl)
  have H_law_kind := okh_law_kind (P := P) (w := w) (base := base) D_law_kind n_isinstance n_len n_ValueError xt (by intro us m Q h; first | (obtain ⟨rfl, _⟩ := h; rfl) | (obtain ⟨_, rfl, _⟩ := h; rfl) | (obtain ⟨_, _, rfl, _⟩ := h; rfl) | (obtain ⟨_, _, _, rfl, _⟩ := h; rfl) | (obtain ⟨_, _, _, _, rfl, _⟩ := h; rfl) | (obtain ⟨_, _, _, _, _, rfl, _⟩ := h; rfl) | (obtain ⟨_, _, _, _, _, _, rfl, _⟩ := h; rfl) | (obtain ⟨_, _, _, _, _, _, _, rfl, _⟩ := h; rfl) | (obtain ⟨_, _, _, _, _, _, _, _, rfl, _⟩ := h; rfl)) sem_law_kind
  have D_have_form := Dfn.mk' (x := "have_form") (st := s_have_form) (ps := ["value"]) X G a_have_form l_have_form c_have_form k_have_form (fun _ _ _ _ _ _ us hl => match us, hl with | [_], _ => rfl)
  have C_have_form := ok_have_form (P := P) (w := w) (base := base) D_have_form C_is_integer n_isinstance n_list n_len n_enumerate n_max n_all ⟨_, p_MOST_ENTRIES⟩ (by intro us m Q h; first | (obtain ⟨rfl, _⟩ := h; rfl) | (obtain ⟨_, rfl, _⟩ := h; rfl) | (obtain ⟨_, _, rfl, _⟩ := h; rfl) | (obtain ⟨_, _, _, rfl, _⟩ := h; rfl) | (obtain ⟨_, _, _, _, rfl, _⟩ := h; rfl) | (obtain ⟨_, _, _, _, _, rfl, _⟩ := h; rfl) | (obtain ⟨_, _, _, _, _, _, rfl, _⟩ := h; rfl) | (obtain ⟨_, _, _, _, _, _, _, rfl, _⟩ := h; rfl) | (obtain ⟨_, _, _, _, _, _, _, _, rfl, _⟩ := h; rfl)) sem_have_form
  have D_law_log := Dfn.mk' (x := "_law_log") (st := s_law_log) (ps := ["vat", "size"]) X G a_law_log l_law_log c_law_log k_law_log (fun _ _ _ _ _ _ us hl => match us, hl with | [_, _], _ => rfl)
  have C_law_log := ok_law_log (P := P) (w := w) (base := base) D_law_log C_law_drip n_range n_len n_max (by intro us m Q h; first | (obtain ⟨rfl, _⟩ := h; rfl) | (obtain ⟨_, rfl, _⟩ := h; rfl) | (obtain ⟨_, _, rfl, _⟩ := h; rfl) | (obtain ⟨_, _, _, rfl, _⟩ := h; rfl) | (obtain ⟨_, _, _, _, rfl, _⟩ := h; rfl) | (obtain ⟨_, _, _, _, _, rfl, _⟩ := h; rfl) | (obtain ⟨_, _, _, _, _, _, rfl, _⟩ := h; rfl) | (obtain ⟨_, _, _, _, _, _, _, rfl, _⟩ := h; rfl) | (obtain ⟨_, _, _, _, _, _, _, _, rfl, _⟩ := h; rfl)) sem_law_log
  have D_is_log := Dfn.mk' (x := "is_log") (st := s_is_log) (ps := ["value"]) X G a_is_log l_is_log c_is_log k_is_log (fun _ _ _ _ _ _ us hl => match us, hl with | [_], _ => rfl)
  have C_is_log := ok_is_log (P := P) (w := w) (base := base) D_is_log C_have_form C_least_crossing (by intro us m Q h; first | (obtain ⟨rfl, _⟩ := h; rfl) | (obtain ⟨_, rfl, _⟩ := h; rfl) | (obtain ⟨_, _, rfl, _⟩ := h; rfl) | (obtain ⟨_, _, _, rfl, _⟩ := h; rfl) | (obtain ⟨_, _, _, _, rfl, _⟩ := h; rfl) | (obtain ⟨_, _, _, _, _, rfl, _⟩ := h; rfl) | (obtain ⟨_, _, _, _, _, _, rfl, _⟩ := h; rfl) | (obtain ⟨_, _, _, _, _, _, _, rfl, _⟩ := h; rfl) | (obtain ⟨_, _, _, _, _, _, _, _, rfl, _⟩ := h; rfl)) sem_is_logD
  have D_crossing_in := Dfn.mk' (x := "crossing_in") (st := s_crossing_in) (ps := ["value"]) X G a_crossing_in l_crossing_in c_crossing_in k_crossing_in (fun _ _ _ _ _ _ us hl => match us, hl with | [_], _ => rfl)
  have X_crossing_in := okx_crossing_in (P := P) (w := w) (base := base) D_crossing_in C_have_form C_least_crossing xt (by intro us m Q X h; first | (obtain ⟨rfl, _⟩ := h; rfl) | (obtain ⟨_, rfl, _⟩ := h; rfl) | (obtain ⟨_, _, rfl, _⟩ := h; rfl) | (obtain ⟨_, _, _, rfl, _⟩ := h; rfl) | (obtain ⟨_, _, _, _, rfl, _⟩ := h; rfl) | (obtain ⟨_, _, _, _, _, rfl, _⟩ := h; rfl) | (obtain ⟨_, _, _, _, _, _, rfl, _⟩ := h; rfl) | (obtain ⟨_, _, _, _, _, _, _, rfl, _⟩ := h; rfl) | (obtain ⟨_, _, _, _, _, _, _, _, rfl, _⟩ := h; rfl)) semx_crossing_in
  have D_need_log := Dfn.mk' (x := "need_log") (st := s_need_log) (ps := ["value"]) X G a_need_log l_need_log c_need_log k_need_log (fun _ _ _ _ _ _ us hl => match us, hl with | [_], _ => rfl)
  have X_need_log := okx_need_log (P := P) (w := w) (base := base) D_need_log C_is_log xt (by intro us m Q X h; first | (obtain ⟨rfl, _⟩ := h; rfl) | (obtain ⟨_, rfl, _⟩ := h; rfl) | (obtain ⟨_, _, rfl, _⟩ := h; rfl) | (obtain ⟨_, _, _, rfl, _⟩ := h; rfl) | (obtain ⟨_, _, _, _, rfl, _⟩ := h; rfl) | (obtain ⟨_, _, _, _, _, rfl, _⟩ := h; rfl) | (obtain ⟨_, _, _, _, _, _, rfl, _⟩ := h; rfl) | (obtain ⟨_, _, _, _, _, _, _, rfl, _⟩ := h; rfl) | (obtain ⟨_, _, _, _, _, _, _, _, rfl, _⟩ := h; rfl)) semx_need_logN
  have D_allowed_targets := Dfn.mk' (x := "allowed_targets") (st := s_allowed_targets) (ps := ["links"]) X G a_allowed_targets l_allowed_targets c_allowed_targets k_allowed_targets (fun _ _ _ _ _ _ us hl => match us, hl with | [_], _ => rfl)
  have X_allowed_targets := okx_allowed_targets (P := P) (w := w) (base := base) D_allowed_targets C_targets_of X_need_log (by intro us m Q X h; first | (obtain ⟨rfl, _⟩ := h; rfl) | (obtain ⟨_, rfl, _⟩ := h; rfl) | (obtain ⟨_, _, rfl, _⟩ := h; rfl) | (obtain ⟨_, _, _, rfl, _⟩ := h; rfl) | (obtain ⟨_, _, _, _, rfl, _⟩ := h; rfl) | (obtain ⟨_, _, _, _, _, rfl, _⟩ := h; rfl) | (obtain ⟨_, _, _, _, _, _, rfl, _⟩ := h; rfl) | (obtain ⟨_, _, _, _, _, _, _, rfl, _⟩ := h; rfl) | (obtain ⟨_, _, _, _, _, _, _, _, rfl, _⟩ := h; rfl)) semx_allowed_targets
  have D_law_raised := Dfn.mk' (x := "_law_raised") (st := s_law_raised) (ps := ["door", "value"]) X G a_law_raised l_law_raised c_law_raised k_law_raised (fun _ _ _ _ _ _ us hl => match us, hl with | [_, _], _ => rfl)
  have C_law_raised := ok_law_raised (P := P) (w := w) (base := base) D_law_raised H_law_kind X_crossing_in X_allowed_targets n_repr xt (by intro us m Q h; first | (obtain ⟨rfl, _⟩ := h; rfl) | (obtain ⟨_, rfl, _⟩ := h; rfl) | (obtain ⟨_, _, rfl, _⟩ := h; rfl) | (obtain ⟨_, _, _, rfl, _⟩ := h; rfl) | (obtain ⟨_, _, _, _, rfl, _⟩ := h; rfl) | (obtain ⟨_, _, _, _, _, rfl, _⟩ := h; rfl) | (obtain ⟨_, _, _, _, _, _, rfl, _⟩ := h; rfl) | (obtain ⟨_, _, _, _, _, _, _, rfl, _⟩ := h; rfl) | (obtain ⟨_, _, _, _, _, _, _, _, rfl, _⟩ := h; rfl)) sem_law_raised
  have D_law := Dfn.mk' (x := "law") (st := s_law) (ps := ["script"]) X G a_law l_law c_law k_law (fun _ _ _ _ _ _ us hl => match us, hl with | [_], _ => rfl)
  have C_law := ok_law (P := P) (w := w) (base := base) D_law C_law_vat C_law_log C_law_drip C_law_raised C_law_crossing C_law_odd n_len n_min n_max n_range (by intro us m Q h; first | (obtain ⟨rfl, _⟩ := h; rfl) | (obtain ⟨_, rfl, _⟩ := h; rfl) | (obtain ⟨_, _, rfl, _⟩ := h; rfl) | (obtain ⟨_, _, _, rfl, _⟩ := h; rfl) | (obtain ⟨_, _, _, _, rfl, _⟩ := h; rfl) | (obtain ⟨_, _, _, _, _, rfl, _⟩ := h; rfl) | (obtain ⟨_, _, _, _, _, _, rfl, _⟩ := h; rfl) | (obtain ⟨_, _, _, _, _, _, _, rfl, _⟩ := h; rfl) | (obtain ⟨_, _, _, _, _, _, _, _, rfl, _⟩ := h; rfl)) sem_law
  exact C_law
end Z.K04
open PySem PySem.W PyProof.Rows
set_option maxHeartbeats 0 in
theorem PySem.Challenge.cw_backlinks_k04_errors_of_links_holds : PySem.Challenge.rw_backlinks_k04_errors_of_links.Holds := by
  w_on; o_law; k_head; (case hw => w_witness2)
  k_fill
  refine Z.walkG (l := PySem.Challenge.rw_backlinks_k04_errors_of_links) (k := 7) (x := "script") rfl rfl ⟨rfl, by decide, by decide⟩ (fun w h Y => PySem.W.kIn_of Y) ?F
  case F =>
    intro w mg h KX G base hB hBns
    refine' Z.K04.fin KX G ?a_is_integer ?l_is_integer ?c_is_integer ?k_is_integer ?a_have_form ?l_have_form ?c_have_form ?k_have_form ?a_least_crossing ?l_least_crossing ?c_least_crossing ?k_least_crossing ?a_is_log ?l_is_log ?c_is_log ?k_is_log ?a_need_log ?l_need_log ?c_need_log ?k_need_log ?a_crossing_in ?l_crossing_in ?c_crossing_in ?k_crossing_in ?a_targets_of ?l_targets_of ?c_targets_of ?k_targets_of ?a_allowed_targets ?l_allowed_targets ?c_allowed_targets ?k_allowed_targets ?a_law_vat ?l_law_vat ?c_law_vat ?k_law_vat ?a_law_drip ?l_law_drip ?c_law_drip ?k_law_drip ?a_law_log ?l_law_log ?c_law_log ?k_law_log ?a_law_crossing ?l_law_crossing ?c_law_crossing ?k_law_crossing ?a_law_odd ?l_law_odd ?c_law_odd ?k_law_odd ?a_law_kind ?l_law_kind ?c_law_kind ?k_law_kind ?a_law_raised ?l_law_raised ?c_law_raised ?k_law_raised ?a_law ?l_law ?c_law ?k_law ?z_ValueError ?z_abs ?z_all ?z_bool ?z_enumerate ?z_int ?z_isinstance ?z_len ?z_list ?z_max ?z_min ?z_range ?z_repr ?q_MOST_ENTRIES ?xtab base
    (case a_is_integer => k_is); (case l_is_integer => k_is); (case c_is_integer => k_is); (case k_is_integer => k_is); (case a_have_form => k_is); (case l_have_form => k_is); (case c_have_form => k_is); (case k_have_form => k_is); (case a_least_crossing => k_is); (case l_least_crossing => k_is); (case c_least_crossing => k_is); (case k_least_crossing => k_is); (case a_is_log => k_is); (case l_is_log => k_is); (case c_is_log => k_is); (case k_is_log => k_is); (case a_need_log => k_is); (case l_need_log => k_is); (case c_need_log => k_is); (case k_need_log => k_is); (case a_crossing_in => k_is); (case l_crossing_in => k_is); (case c_crossing_in => k_is); (case k_crossing_in => k_is); (case a_targets_of => k_is); (case l_targets_of => k_is); (case c_targets_of => k_is); (case k_targets_of => k_is); (case a_allowed_targets => k_is); (case l_allowed_targets => k_is); (case c_allowed_targets => k_is); (case k_allowed_targets => k_is); (case a_law_vat => k_is); (case l_law_vat => k_is); (case c_law_vat => k_is); (case k_law_vat => k_is); (case a_law_drip => k_is); (case l_law_drip => k_is); (case c_law_drip => k_is); (case k_law_drip => k_is); (case a_law_log => k_is); (case l_law_log => k_is); (case c_law_log => k_is); (case k_law_log => k_is); (case a_law_crossing => k_is); (case l_law_crossing => k_is); (case c_law_crossing => k_is); (case k_law_crossing => k_is); (case a_law_odd => k_is); (case l_law_odd => k_is); (case c_law_odd => k_is); (case k_law_odd => k_is); (case a_law_kind => k_is); (case l_law_kind => k_is); (case c_law_kind => k_is); (case k_law_kind => k_is); (case a_law_raised => k_is); (case l_law_raised => k_is); (case c_law_raised => k_is); (case k_law_raised => k_is); (case a_law => k_is); (case l_law => k_is); (case c_law => k_is); (case k_law => k_is); (case z_ValueError => k_is); (case z_abs => k_is); (case z_all => k_is); (case z_bool => k_is); (case z_enumerate => k_is); (case z_int => k_is); (case z_isinstance => k_is); (case z_len => k_is); (case z_list => k_is); (case z_max => k_is); (case z_min => k_is); (case z_range => k_is); (case z_repr => k_is); (case q_MOST_ENTRIES => k_is); (case xtab => kernel_rfl!)
