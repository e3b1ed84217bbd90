import PyProof.Rows.All
import Wide.All
import OpenK.AllK
import Wide.FinOn
import HandS.ForMost
import HandS.ForExc
import HandS.Deep
import HandS.Style
import HandS.Conv
import HandS.TupSets
import HandS.SortKw
import HandS.IsInst
import HandS.Flow
import HandS.DictTup
import HandS.ExcInit
import HandS.Zip
import KE.SortData
import KE.SortKeyHeap
import KE.DatumIndex
import KE.BitLaws
import KE.KSortKey
import KE.KDictPairs
import HandS.TupAny
import PyProof.ReprLen
import PyProof.EqAt
import PyProof.EqKinds
import PyProof.TupleCall
import Open.SpecLaws
import KE.OsGo
import PySem.Challenge.RW_forktold_k26_whole_webs_that_go_together
set_option Elab.async false
set_option linter.all false
set_option maxRecDepth 100000
set_option maxHeartbeats 8000000
/-! the framework: data on the abstract heap, slots, judgements -/
namespace F26
open PySem PySem.Spec L2

/-! ### data at values -/
/-- a dict of ints; a dict whose keys are tuples of ints, each True (the first entry marks the kind) -/
def dKd (kvs : List (Int × Int)) : PyData := .dict ((.bool true, .none) :: kvs.map fun p => (.int p.1, .int p.2))
def dTd (ks : List (List Int)) : PyData := .dict ((.none, .none) :: ks.map fun k => (.tuple (k.map .int), .bool true))
mutual
inductive Da (H : Hp) : V → PyData → Prop
  | non : Da H .non .none
  | bl (b : Bool) : Da H (.bl b) (.bool b)
  | int (i : Int) : Da H (.int i) (.int i)
  | str (x : Str) : Da H (.str x) (.str x)
  | lst {a : Addr} {xs : List V} {ds : List PyData} : H a = some (.lst xs) → DaL H xs ds → Da H (.ref a) (.list ds)
  | tup {a : Addr} {xs : List V} {ds : List PyData} : H a = some (.tup xs) → DaL H xs ds → Da H (.ref a) (.tuple ds)
  | dK {a : Addr} (kvs : List (Int × Int)) : H a = some (.dK (kvs.map fun p => (Sum.inl p.1, V.int p.2))) → Da H (.ref a) (dKd kvs)
  | dT {a : Addr} (ks : List (List Int)) : H a = some (.dT (ks.map fun k => (k.map Sum.inl, V.bl true))) → Da H (.ref a) (dTd ks)
inductive DaL (H : Hp) : List V → List PyData → Prop
  | nil : DaL H [] []
  | cons {v : V} {vs : List V} {d : PyData} {ds : List PyData} : Da H v d → DaL H vs ds → DaL H (v :: vs) (d :: ds)
end

mutual
theorem Da.mono {H H' : Hp} (e : Same H H') : ∀ {d : PyData} {v : V}, Da H v d → Da H' v d
  | _, _, .non => .non
  | _, _, .bl b => .bl b
  | _, _, .int i => .int i
  | _, _, .str x => .str x
  | _, _, .lst h r => .lst (e _ _ h) (DaL.mono e r)
  | _, _, .tup h r => .tup (e _ _ h) (DaL.mono e r)
  | _, _, .dK kvs h => .dK kvs (e _ _ h)
  | _, _, .dT ks h => .dT ks (e _ _ h)
theorem DaL.mono {H H' : Hp} (e : Same H H') : ∀ {ds : List PyData} {vs : List V}, DaL H vs ds → DaL H' vs ds
  | _, _, .nil => .nil
  | _, _, .cons h r => .cons (Da.mono e h) (DaL.mono e r)
end

theorem DaL.length {H : Hp} : ∀ {ds : List PyData} {vs : List V}, DaL H vs ds → vs.length = ds.length
  | _, _, .nil => rfl
  | _, _, .cons _ r => congrArg (· + 1) (DaL.length r)
theorem DaL.append {H : Hp} : ∀ {ds es : List PyData} {vs us : List V}, DaL H vs ds → DaL H us es → DaL H (vs ++ us) (ds ++ es)
  | _, _, _, _, .nil, s => s
  | _, _, _, _, .cons h r, s => .cons h (DaL.append r s)
theorem DaL.get {H : Hp} : ∀ {ds : List PyData} {vs : List V} {i : Nat} {v : V}, DaL H vs ds → vs[i]? = some v → ∃ d, ds[i]? = some d ∧ Da H v d
  | _, _, _, _, .nil, e => by simp at e
  | _, _, 0, _, .cons h _, e => by
    simp only [List.getElem?_cons_zero, Option.some.injEq] at e
    subst e
    exact ⟨_, rfl, h⟩
  | _, _, i + 1, _, .cons _ r, e => by
    obtain ⟨d, h1, h2⟩ := DaL.get (i := i) r (by simpa using e)
    exact ⟨d, by simpa using h1, h2⟩
theorem DaL.getD {H : Hp} : ∀ {ds : List PyData} {vs : List V} {i : Nat} {d : PyData}, DaL H vs ds → ds[i]? = some d → ∃ v, vs[i]? = some v ∧ Da H v d
  | _, _, _, _, .nil, e => by simp at e
  | _, _, 0, _, .cons h _, e => by
    simp only [List.getElem?_cons_zero, Option.some.injEq] at e
    subst e
    exact ⟨_, rfl, h⟩
  | _, _, i + 1, _, .cons _ r, e => by
    obtain ⟨d, h1, h2⟩ := DaL.getD (i := i) r (by simpa using e)
    exact ⟨d, by simpa using h1, h2⟩
theorem DaL.take {H : Hp} : ∀ {ds : List PyData} {vs : List V} (n : Nat), DaL H vs ds → DaL H (vs.take n) (ds.take n)
  | _, _, 0, _ => .nil
  | _, _, _ + 1, .nil => .nil
  | _, _, n + 1, .cons h r => .cons h (DaL.take n r)
theorem DaL.drop {H : Hp} : ∀ {ds : List PyData} {vs : List V} (n : Nat), DaL H vs ds → DaL H (vs.drop n) (ds.drop n)
  | _, _, 0, r => r
  | _, _, _ + 1, .nil => .nil
  | _, _, n + 1, .cons _ r => DaL.drop n r
theorem DaL.eraseIdx {H : Hp} : ∀ {ds : List PyData} {vs : List V} (n : Nat), DaL H vs ds → DaL H (vs.eraseIdx n) (ds.eraseIdx n)
  | _, _, _, .nil => .nil
  | _, _, 0, .cons _ r => r
  | _, _, n + 1, .cons h r => .cons h (DaL.eraseIdx n r)

mutual
/-- dict-free data are HandS's own data -/
theorem Da.dp {K : PySem.W.Frag} {H : Hp} : ∀ {d : PyData} {v : V}, Da H v d → d.canLay0 = true → Dp K H v d
  | _, _, .non, _ => .non
  | _, _, .bl b, _ => .bl b
  | _, _, .int i, _ => .int i
  | _, _, .str x, _ => .str x
  | _, _, .lst h r, c => .lst (SqL.of h) (DaL.dp r (by simpa [PyData.canLay0] using c))
  | _, _, .tup h r, c => .tup (SqT.of h) (DaL.dp r (by simpa [PyData.canLay0] using c))
  | _, _, .dK _ _, c => by simp [dKd, PyData.canLay0] at c
  | _, _, .dT _ _, c => by simp [dTd, PyData.canLay0] at c
theorem DaL.dp {K : PySem.W.Frag} {H : Hp} : ∀ {ds : List PyData} {vs : List V}, DaL H vs ds → PyData.canLayAll0 ds = true → DpAll K H vs ds
  | _, _, .nil, _ => .nil
  | _, _, .cons h r, c => by
    simp only [PyData.canLayAll0, Bool.and_eq_true] at c
    exact .cons (Da.dp h c.1) (DaL.dp r c.2)
end

theorem DaL.ints {H : Hp} : ∀ {ns : List Int} {vs : List V}, DaL H vs (ns.map .int) → vs = ns.map V.int
  | [], _, h => by cases h; rfl
  | n :: ns, _, h => by
    cases h with
    | cons h1 h2 =>
      cases h1
      rw [DaL.ints h2]
      rfl
theorem DaL.of_ints {H : Hp} : ∀ (ns : List Int), DaL H (ns.map V.int) (ns.map .int)
  | [] => .nil
  | n :: ns => .cons (.int n) (DaL.of_ints ns)

/-! ### hidden addresses -/
def hid (h : List Addr) (H : Hp) : Hp := fun a => if a ∈ h then none else H a
theorem hid_some {h : List Addr} {H : Hp} {a : Addr} {o : HO} : hid h H a = some o ↔ a ∉ h ∧ H a = some o := by
  unfold hid
  by_cases q : a ∈ h
  · rw [if_pos q]
    exact ⟨(fun z => by cases z), fun z => absurd q z.1⟩
  · rw [if_neg q]
    exact ⟨fun z => ⟨q, z⟩, fun z => z.2⟩
theorem hid_nil {H : Hp} : hid [] H = H := by
  funext a
  unfold hid
  rw [if_neg List.not_mem_nil]
theorem hid_sub {h : List Addr} {H : Hp} : Same (hid h H) H := fun _ _ e => (hid_some.mp e).2
theorem hid_same {h : List Addr} {H H' : Hp} (e : Same H H') : Same (hid h H) (hid h H') := fun b o q =>
  hid_some.mpr ⟨(hid_some.mp q).1, e b o (hid_some.mp q).2⟩
theorem hid_anti {h h' : List Addr} {H : Hp} (s : ∀ x ∈ h', x ∈ h) : Same (hid h H) (hid h' H) := fun b o q =>
  hid_some.mpr ⟨fun z => (hid_some.mp q).1 (s b z), (hid_some.mp q).2⟩
/-- a list stands at q -/
def IsL (H : Hp) (q : Addr) : Prop := ∃ xs, H q = some (.lst xs)
theorem IsL.ne {H : Hp} {q : Addr} (i : IsL H q) : H q ≠ none := fun z => by
  obtain ⟨xs, e⟩ := i
  rw [e] at z
  cases z
theorem IsL.same {H H' : Hp} {q : Addr} (i : IsL H q) (s : Same H H') : IsL H' q := i.imp fun xs e => s _ _ e
theorem Same.new {H : Hp} {p : Addr} {o : HO} (h : H p = none) : Same H (upd H p o) := fun a u e => by
  rw [upd_ne (ne_of_none e h)]
  exact e

/-! data without lists lean on tuples and dicts alone -/
mutual
def nl : PyData → Bool
  | .none | .bool _ | .int _ | .str _ => true
  | .list _ => false
  | .tuple xs => nlAll xs
  | .dict _ => true
def nlAll : List PyData → Bool
  | [] => true
  | x :: xs => nl x && nlAll xs
end
/-! the list at p has become another -/
mutual
theorem Da.off {H H' : Hp} {p : Addr} {xs : List V} (hp : H p = some (.lst xs)) (e : ∀ b o, b ≠ p → H b = some o → H' b = some o) : ∀ {d : PyData} {v : V}, Da H v d → nl d = true → Da H' v d
  | _, _, .non, _ => .non
  | _, _, .bl b, _ => .bl b
  | _, _, .int i, _ => .int i
  | _, _, .str x, _ => .str x
  | _, _, .lst _ _, c => by simp [nl] at c
  | _, _, .tup h r, c => .tup (e _ _ (fun z => by rw [z, hp] at h; cases h) h) (DaL.off hp e r (by simpa [nl] using c))
  | _, _, .dK kvs h, _ => .dK kvs (e _ _ (fun z => by rw [z, hp] at h; cases h) h)
  | _, _, .dT ks h, _ => .dT ks (e _ _ (fun z => by rw [z, hp] at h; cases h) h)
theorem DaL.off {H H' : Hp} {p : Addr} {xs : List V} (hp : H p = some (.lst xs)) (e : ∀ b o, b ≠ p → H b = some o → H' b = some o) : ∀ {ds : List PyData} {vs : List V}, DaL H vs ds → nlAll ds = true → DaL H' vs ds
  | _, _, .nil, _ => .nil
  | _, _, .cons h r, c => by
    simp only [nlAll, Bool.and_eq_true] at c
    exact .cons (Da.off hp e h c.1) (DaL.off hp e r c.2)
end
end F26

/-! slots, judgements of expressions and tests -/
namespace F26
open PySem PySem.Spec L2

/-- the entry's heap, and what may be changed of it -/
structure Bs where
  H0 : Hp
  md : List Addr
/-- what a slot holds: nothing known | a datum | an own new list | the fount of draws | the script -/
inductive Sl where
  | u
  | d (x : PyData)
  | l (p : Addr) (ds : List PyData)
  | f (F G : Addr)
  | q (a : Addr) (ns : List Int)
def Fount (F G : Addr) (H : Hp) : Prop := F ≠ G ∧ ∃ (gs : List Int) (st ct : Int), H F = some (.lst [.ref G, .int st, .int ct]) ∧ H G = some (.lst (gs.map V.int)) ∧ 0 ≤ st ∧ st < 18446744073709551616
def SlV (K : PySem.W.Frag) (B : Bs) (h : List Addr) (H : Hp) (v : V) : Sl → Prop
  | .u => True
  | .d x => Da (hid h H) v x
  | .l p ds => v = .ref p ∧ p ∉ h ∧ B.H0 p = none ∧ nlAll ds = true ∧ ∃ xs, H p = some (.lst xs) ∧ DaL (hid h H) xs ds
  | .f F G => v = .ref F ∧ F ∈ B.md ∧ G ∈ B.md ∧ Fount F G H
  | .q a ns => v = .ref a ∧ SqL K (hid B.md B.H0) a (ns.map V.int)
structure En (K : PySem.W.Frag) (B : Bs) (h : List Addr) (H : Hp) (σ : L2.St) (ss : List Sl) : Prop where
  rel : Same (hid B.md B.H0) (hid B.md H)
  dom : ∀ x ∈ h, IsL H x
  mdh : ∀ x ∈ B.md, x ∈ h
  len : σ.length = ss.length
  sl : ∀ (i : Nat) (x : Sl), ss[i]? = some x → x = .u ∨ ∃ v, σ[i]? = some (some v) ∧ SlV K B h H v x
  nd : ∀ (i j : Nat) (p : Addr) (ds es : List PyData), ss[i]? = some (.l p ds) → ss[j]? = some (.l p es) → i = j

section
variable {K : PySem.W.Frag} {B : Bs} {h : List Addr} {H H' : Hp} {σ : L2.St} {ss : List Sl}
theorem SlV.same {v : V} {x : Sl} (e : Same H H') (s : SlV K B h H v x) : SlV K B h H' v x := by
  cases x with
  | u => trivial
  | d x => exact Da.mono (hid_same e) s
  | l p ds =>
    obtain ⟨a, b, c, d, xs, e1, e2⟩ := s
    exact ⟨a, b, c, d, xs, e _ _ e1, e2.mono (hid_same e)⟩
  | f F G =>
    obtain ⟨a, b, c, d, gs, st, ct, e1, e2, e3⟩ := s
    exact ⟨a, b, c, d, gs, st, ct, e _ _ e1, e _ _ e2, e3⟩
  | q a ns => exact s
/-- nothing that stood has changed -/
theorem En.same (E : En K B h H σ ss) (e : Same H H') : En K B h H' σ ss where
  rel := E.rel.trans (hid_same e)
  dom := fun x hx => (E.dom x hx).same e
  mdh := E.mdh
  len := E.len
  sl := fun i x hi => (E.sl i x hi).imp id fun ⟨v, a, b⟩ => ⟨v, a, b.same e⟩
  nd := E.nd
theorem En.at_d (E : En K B h H σ ss) {i : Nat} {x : PyData} (hi : ss[i]? = some (.d x)) : ∃ v, σ[i]? = some (some v) ∧ Da (hid h H) v x := by
  rcases E.sl i _ hi with z | z
  · cases z
  · exact z
theorem En.at_l (E : En K B h H σ ss) {i : Nat} {p : Addr} {ds : List PyData} (hi : ss[i]? = some (.l p ds)) : σ[i]? = some (some (.ref p)) ∧ p ∉ h ∧ B.H0 p = none ∧ nlAll ds = true ∧ ∃ xs, H p = some (.lst xs) ∧ DaL (hid h H) xs ds := by
  rcases E.sl i _ hi with z | ⟨v, a, b, c⟩
  · cases z
  · rw [b] at a
    exact ⟨a, c⟩
theorem En.at_f (E : En K B h H σ ss) {i : Nat} {F G : Addr} (hi : ss[i]? = some (.f F G)) : σ[i]? = some (some (.ref F)) ∧ F ∈ B.md ∧ G ∈ B.md ∧ Fount F G H := by
  rcases E.sl i _ hi with z | ⟨v, a, b, c⟩
  · cases z
  · rw [b] at a
    exact ⟨a, c⟩
theorem En.at_q (E : En K B h H σ ss) {i : Nat} {a : Addr} {ns : List Int} (hi : ss[i]? = some (.q a ns)) : σ[i]? = some (some (.ref a)) ∧ SqL K H a (ns.map V.int) := by
  rcases E.sl i _ hi with z | ⟨v, a', b, c⟩
  · cases z
  · rw [b] at a'
    exact ⟨a', Same.seq (hid_sub (h := B.md)) (Same.seq E.rel c)⟩
/-- a slot is stored -/
theorem En.set (E : En K B h H σ ss) {i : Nat} {v : V} {x : Sl} (s : x = .u ∨ SlV K B h H v x) (n : ∀ p ds, x = .l p ds → ∀ (j : Nat) es, ss[j]? = some (.l p es) → j = i) : En K B h H (σ.set i (some v)) (ss.set i x) where
  rel := E.rel
  dom := E.dom
  mdh := E.mdh
  len := by rw [List.length_set, List.length_set]; exact E.len
  sl := fun j y hj => by
    by_cases hij : i = j
    · subst hij
      by_cases hi : i < ss.length
      · rw [List.getElem?_set_self hi] at hj
        cases hj
        rcases s with s | s
        · exact .inl s
        · exact .inr ⟨v, by rw [List.getElem?_set_self (by rw [E.len]; exact hi)], s⟩
      · rw [List.getElem?_eq_none (by rw [List.length_set]; omega)] at hj
        cases hj
    · rw [List.getElem?_set_ne hij] at hj
      rw [List.getElem?_set_ne hij]
      exact E.sl j y hj
  nd := fun j k p ds es hj hk => by
    by_cases h1 : i = j
    · subst h1
      by_cases hi : i < ss.length
      · rw [List.getElem?_set_self hi] at hj
        cases hj
        by_cases h2 : i = k
        · exact h2
        · rw [List.getElem?_set_ne h2] at hk
          exact (n p ds rfl k es hk).symm
      · rw [List.getElem?_eq_none (by rw [List.length_set]; omega)] at hj
        cases hj
    · rw [List.getElem?_set_ne h1] at hj
      by_cases h2 : i = k
      · subst h2
        by_cases hi : i < ss.length
        · rw [List.getElem?_set_self hi] at hk
          cases hk
          exact n p es rfl j ds hj
        · rw [List.getElem?_eq_none (by rw [List.length_set]; omega)] at hk
          cases hk
      · rw [List.getElem?_set_ne h2] at hk
        exact E.nd j k p ds es hj hk
theorem En.set_d (E : En K B h H σ ss) {i : Nat} {v : V} {x : PyData} (s : Da (hid h H) v x) : En K B h H (σ.set i (some v)) (ss.set i (.d x)) :=
  E.set (.inr s) fun _ _ z => by cases z
theorem En.set_u (E : En K B h H σ ss) {i : Nat} {v : V} : En K B h H (σ.set i (some v)) (ss.set i .u) :=
  E.set (.inl rfl) fun _ _ z => by cases z
/-- slots forgotten -/
theorem En.weak (E : En K B h H σ ss) {σ' : L2.St} {ss' : List Sl} (l : σ'.length = ss'.length) (w : ∀ (i : Nat) (x : Sl), ss'[i]? = some x → x = .u ∨ (ss[i]? = some x ∧ σ'[i]? = σ[i]?)) : En K B h H σ' ss' where
  rel := E.rel
  dom := E.dom
  mdh := E.mdh
  len := l
  sl := fun i x hi => by
    rcases w i x hi with z | ⟨z1, z2⟩
    · exact .inl z
    · rw [z2]
      exact E.sl i x z1
  nd := fun i j p ds es hi hj => by
    rcases w i _ hi with z | ⟨z1, _⟩
    · cases z
    rcases w j _ hj with z | ⟨z2, _⟩
    · cases z
    exact E.nd i j p ds es z1 z2
/-- one more address is hidden, that nothing leans on -/
theorem En.hide (E : En K B h H σ ss) {D : Addr} {ys : List V} (n : H D = none) : En K B (D :: h) (upd H D (.lst ys)) σ ss where
  rel := E.rel.trans (hid_same (Same.new n))
  dom := fun x hx => by
    rcases List.mem_cons.mp hx with z | z
    · exact ⟨ys, by rw [z, upd_same]⟩
    · exact (E.dom x z).same (Same.new n)
  mdh := fun x hx => List.mem_cons_of_mem _ (E.mdh x hx)
  len := E.len
  sl := fun i x hi => by
    have hs : Same (hid h H) (hid (D :: h) (upd H D (.lst ys))) := fun b ob q => by
      obtain ⟨q1, q2⟩ := hid_some.mp q
      have hb : b ≠ D := fun z => by rw [z, n] at q2; cases q2
      exact hid_some.mpr ⟨fun z => (List.mem_cons.mp z).elim hb q1, by rw [upd_ne hb]; exact q2⟩
    rcases E.sl i x hi with z | ⟨v, a, s⟩
    · exact .inl z
    · refine .inr ⟨v, a, ?_⟩
      cases x with
      | u => trivial
      | d x => exact Da.mono hs s
      | l p ds =>
        obtain ⟨a, b, c, d, xs, e1, e2⟩ := s
        have hp : p ≠ D := fun z => by rw [z, n] at e1; cases e1
        exact ⟨a, fun z => (List.mem_cons.mp z).elim hp b, c, d, xs, by rw [upd_ne hp]; exact e1, e2.mono hs⟩
      | f F G =>
        obtain ⟨a, b, c, d, gs, st, ct, e1, e2, e3⟩ := s
        exact ⟨a, b, c, d, gs, st, ct, Same.new n _ _ e1, Same.new n _ _ e2, e3⟩
      | q a ns => exact s
  nd := E.nd
/-- a hidden object has changed (it is not of the fount) -/
theorem En.hupd (E : En K B h H σ ss) {D : Addr} {ys : List V} (hD : D ∈ h) (hm : D ∉ B.md) (h0 : B.H0 D = none) : En K B h (upd H D (.lst ys)) σ ss where
  rel := fun b ob q => by
    obtain ⟨q1, q2⟩ := hid_some.mp (E.rel b ob q)
    have hb : b ≠ D := fun z => by
      have := (hid_some.mp q).2
      rw [z, h0] at this
      cases this
    exact hid_some.mpr ⟨q1, by rw [upd_ne hb]; exact q2⟩
  dom := fun x hx => by
    by_cases z : x = D
    · exact ⟨ys, by rw [z, upd_same]⟩
    · obtain ⟨zs, e⟩ := E.dom x hx
      exact ⟨zs, by rw [upd_ne z]; exact e⟩
  mdh := E.mdh
  len := E.len
  sl := fun i x hi => by
    have hs : Same (hid h H) (hid h (upd H D (.lst ys))) := fun b ob q => by
      obtain ⟨q1, q2⟩ := hid_some.mp q
      have hb : b ≠ D := fun z => q1 (by rw [z]; exact hD)
      exact hid_some.mpr ⟨q1, by rw [upd_ne hb]; exact q2⟩
    rcases E.sl i x hi with z | ⟨v, a, s⟩
    · exact .inl z
    · refine .inr ⟨v, a, ?_⟩
      cases x with
      | u => trivial
      | d x => exact Da.mono hs s
      | l p ds =>
        obtain ⟨a, b, c, d, xs, e1, e2⟩ := s
        have hp : p ≠ D := fun z => b (by rw [z]; exact hD)
        exact ⟨a, b, c, d, xs, by rw [upd_ne hp]; exact e1, e2.mono hs⟩
      | f F G =>
        obtain ⟨a, b, c, d, gs, st, ct, e1, e2, e3⟩ := s
        have hF : F ≠ D := fun z => hm (by rw [← z]; exact b)
        have hG : G ≠ D := fun z => hm (by rw [← z]; exact c)
        exact ⟨a, b, c, d, gs, st, ct, by rw [upd_ne hF]; exact e1, by rw [upd_ne hG]; exact e2, e3⟩
      | q a ns => exact s
  nd := E.nd
end
/-- all but what may be changed is kept -/
def Kp (B : Bs) (H H' : Hp) : Prop := Same (hid B.md H) (hid B.md H')
theorem Kp.refl {B : Bs} (H : Hp) : Kp B H H := Same.refl _
theorem Kp.trans {B : Bs} {H H1 H2 : Hp} (a : Kp B H H1) (b : Kp B H1 H2) : Kp B H H2 := Same.trans a b
theorem Kp.of {B : Bs} {H H' : Hp} (e : Same H H') : Kp B H H' := hid_same e
theorem Kp.get {B : Bs} {H H' : Hp} (k : Kp B H H') {b : Addr} {o : HO} (n : b ∉ B.md) (e : H b = some o) : H' b = some o := (hid_some.mp (k b o (hid_some.mpr ⟨n, e⟩))).2
section
variable {K : PySem.W.Frag} {B : Bs} {h h' : List Addr} {H H' : Hp} {σ σ' : L2.St} {ss ss' : List Sl}
theorem En.up (E : En K B h H σ ss) (k : Kp B H H') : Same (hid h H) (hid h H') := fun b o q => by
  obtain ⟨q1, q2⟩ := hid_some.mp q
  exact hid_some.mpr ⟨q1, k.get (fun z => q1 (E.mdh b z)) q2⟩
theorem En.fresh0 (E : En K B h H σ ss) {D : Addr} (n : H D = none) : B.H0 D = none := by
  cases q : B.H0 D with
  | none => rfl
  | some o =>
    by_cases hm : D ∈ B.md
    · exact absurd n (E.dom D (E.mdh D hm)).ne
    · have := (hid_some.mp (E.rel D o (hid_some.mpr ⟨hm, q⟩))).2
      rw [n] at this
      cases this
theorem Kp.fresh {D : Addr} (k : Kp B H H') (n : H' D = none) (m : D ∉ B.md) : H D = none := by
  cases q : H D with
  | none => rfl
  | some o =>
    have := k.get m q
    rw [n] at this
    cases this
/-- the slots of an outer frame behind what an inner one did -/
theorem En.along (E : En K B h H σ ss) (k : Kp B H H') (E' : En K B h' H' σ' ss') (hh : ∀ x ∈ h, x ∈ h') (hf : ∀ (i : Nat) (F G : Addr), ss[i]? = some (.f F G) → Fount F G H') : En K B h H' σ ss where
  rel := E'.rel
  dom := fun x hx => E'.dom x (hh x hx)
  mdh := E.mdh
  len := E.len
  sl := fun i x hi => by
    rcases E.sl i x hi with z | ⟨v, a, s⟩
    · exact .inl z
    · refine .inr ⟨v, a, ?_⟩
      cases x with
      | u => trivial
      | d x => exact Da.mono (E.up k) s
      | l p ds =>
        obtain ⟨a, b, c, d, xs, e1, e2⟩ := s
        exact ⟨a, b, c, d, xs, k.get (fun z => b (E.mdh p z)) e1, e2.mono (E.up k)⟩
      | f F G =>
        obtain ⟨a, b, c, d⟩ := s
        exact ⟨a, b, c, hf i F G hi⟩
      | q a ns => exact s
  nd := E.nd
theorem En.unhide {D : Addr} (E : En K B (D :: h) H σ ss) (hm : ∀ x ∈ B.md, x ∈ h) : En K B h H σ ss where
  rel := E.rel
  dom := fun x hx => E.dom x (List.mem_cons_of_mem _ hx)
  mdh := hm
  len := E.len
  sl := fun i x hi => by
    have hs : Same (hid (D :: h) H) (hid h H) := hid_anti fun x hx => List.mem_cons_of_mem _ hx
    rcases E.sl i x hi with z | ⟨v, a, s⟩
    · exact .inl z
    · refine .inr ⟨v, a, ?_⟩
      cases x with
      | u => trivial
      | d x => exact Da.mono hs s
      | l p ds =>
        obtain ⟨a, b, c, d, xs, e1, e2⟩ := s
        exact ⟨a, fun z => b (List.mem_cons_of_mem _ z), c, d, xs, e1, e2.mono hs⟩
      | f F G => exact s
      | q a ns => exact s
  nd := E.nd
end

/-! ### the canonical readings -/
def wE (X : Cx) (e : Expr) : TE := fun σ H Q => ∀ (pins : List (Addr × Obj)) (s : Shared), Inv X pins σ H s → wpAny (model X.prog X.w) X.A (eval e X.env) (EP X pins σ Q) X.xe s
def wT (X : Cx) (e : Expr) : TT := fun σ H Q => ∀ (pins : List (Addr × Obj)) (s : Shared), Inv X pins σ H s → wpAny (model X.prog X.w) X.A (isTrue e X.env (eval e X.env)) (TP X pins σ Q) X.xe s
def wW (X : Cx) (e : Expr) : TT := fun σ H Q => ∀ (wh : Sem Value) (pins : List (Addr × Obj)) (s : Shared), Inv X pins σ H s → wpAny (model X.prog X.w) X.A (isTrue e X.env wh) (TP X pins σ Q) X.xe s
def wA (X : Cx) (es : List Expr) : TA := fun σ H Q => ∀ (pos : Pos) (pins : List (Addr × Obj)) (s : Shared), Inv X pins σ H s → wpAny (model X.prog X.w) X.A (spliced (backTo pos (starEach es X.env))) (AP X pins σ Q) X.xe s
def wS (X : Cx) (st : Stmt) : TS := fun D σ H => ∀ (pins : List (Addr × Obj)) (s : Shared), Inv X pins σ H s → wpAny (model X.prog X.w) X.A (exec st X.env) (SP X pins D) X.xe s
def wSs (X : Cx) (st : List Stmt) : TS := fun D σ H => ∀ (pins : List (Addr × Obj)) (s : Shared), Inv X pins σ H s → wpAny (model X.prog X.w) X.A (execs st X.env) (SP X pins D) X.xe s
section
variable {X : Cx} {e : Expr} {es : List Expr} {st : Stmt} {sts : List Stmt} {σ : L2.St} {H : Hp}
theorem pe_w : PE X e (wE X e) := ⟨fun pins s _ _ _ I h => h pins s I⟩
theorem pt_w : PT X e (wT X e) := ⟨fun pins s _ _ _ I h => h pins s I⟩
theorem pw_w : PW X e (wW X e) := ⟨fun wh pins s _ _ _ I h => h wh pins s I⟩
theorem pa_w : PA X es (wA X es) := ⟨fun pos pins s _ _ _ I h => h pos pins s I⟩
theorem ps_w : PS X st (wS X st) := ⟨fun pins s _ _ _ I h => h pins s I⟩
theorem pss_w : PSs X sts (wSs X sts) := ⟨fun pins s _ _ _ I h => h pins s I⟩
theorem wE_of {t : TE} (p : PE X e t) {Q : VK} (h : t σ H Q) : wE X e σ H Q := fun pins s I => p.run pins s σ H Q I h
theorem wT_of {t : TT} (p : PT X e t) {Q : Bool → Hp → Prop} (h : t σ H Q) : wT X e σ H Q := fun pins s I => p.run pins s σ H Q I h
theorem wW_of {t : TT} (p : PW X e t) {Q : Bool → Hp → Prop} (h : t σ H Q) : wW X e σ H Q := fun wh pins s I => p.run wh pins s σ H Q I h
theorem wA_of {t : TA} (p : PA X es t) {Q : List V → Hp → Prop} (h : t σ H Q) : wA X es σ H Q := fun pos pins s I => p.run pos pins s σ H Q I h
theorem wS_of {t : TS} (p : PS X st t) {D : Ends} (h : t D σ H) : wS X st D σ H := fun pins s I => p.run pins s σ H D I h
theorem wSs_of {t : TS} (p : PSs X sts t) {D : Ends} (h : t D σ H) : wSs X sts D σ H := fun pins s I => p.run pins s σ H D I h
end

/-! ### the judgements: from slots ss the expression gives a datum of R; the test an answer of R; the arguments data of R -/
def WE (X : Cx) (B : Bs) (h : List Addr) (e : Expr) (ss : List Sl) (R : PyData → Prop) : Prop :=
  ∀ (σ : L2.St) (H : Hp) (Q : VK), En X.K B h H σ ss → (∀ v H2 d, Kp B H H2 → En X.K B h H2 σ ss → Da (hid h H2) v d → R d → Q v H2) → wE X e σ H Q
def WT (X : Cx) (B : Bs) (h : List Addr) (e : Expr) (ss : List Sl) (R : Bool → Prop) : Prop :=
  ∀ (σ : L2.St) (H : Hp) (Q : Bool → Hp → Prop), En X.K B h H σ ss → (∀ b H2, Kp B H H2 → En X.K B h H2 σ ss → R b → Q b H2) → wT X e σ H Q
def WW (X : Cx) (B : Bs) (h : List Addr) (e : Expr) (ss : List Sl) (R : Bool → Prop) : Prop :=
  ∀ (σ : L2.St) (H : Hp) (Q : Bool → Hp → Prop), En X.K B h H σ ss → (∀ b H2, Kp B H H2 → En X.K B h H2 σ ss → R b → Q b H2) → wW X e σ H Q
def WA (X : Cx) (B : Bs) (h : List Addr) (es : List Expr) (ss : List Sl) (R : List PyData → Prop) : Prop :=
  ∀ (σ : L2.St) (H : Hp) (Q : List V → Hp → Prop), En X.K B h H σ ss → (∀ vs H2 ds, Kp B H H2 → En X.K B h H2 σ ss → DaL (hid h H2) vs ds → R ds → Q vs H2) → wA X es σ H Q
abbrev DE (X : Cx) (B : Bs) (h : List Addr) (e : Expr) (ss : List Sl) (d : PyData) : Prop := WE X B h e ss (fun x => x = d)
abbrev DT (X : Cx) (B : Bs) (h : List Addr) (e : Expr) (ss : List Sl) (b : Bool) : Prop := WT X B h e ss (fun x => x = b)
abbrev DW (X : Cx) (B : Bs) (h : List Addr) (e : Expr) (ss : List Sl) (b : Bool) : Prop := WW X B h e ss (fun x => x = b)
abbrev DA (X : Cx) (B : Bs) (h : List Addr) (es : List Expr) (ss : List Sl) (ds : List PyData) : Prop := WA X B h es ss (fun x => x = ds)

section
variable {X : Cx} {B : Bs} {h : List Addr} {ss : List Sl} {e a b c : Expr} {es : List Expr} {pos pos' p : Pos} {R Ra : PyData → Prop} {x y z : PyData}
theorem WE.imp (w : WE X B h e ss R) {R' : PyData → Prop} (i : ∀ d, R d → R' d) : WE X B h e ss R' := fun σ H Q en k => w σ H Q en fun v H2 d s e dd r => k v H2 d s e dd (i d r)
theorem WE.of (w : DE X B h e ss x) (r : R x) : WE X B h e ss R := w.imp fun d q => by rw [q]; exact r
theorem WE.eq (w : DE X B h e ss x) (r : x = y) : DE X B h e ss y := by rw [← r]; exact w
theorem WT.imp {R R' : Bool → Prop} (w : WT X B h e ss R) (i : ∀ d, R d → R' d) : WT X B h e ss R' := fun σ H Q en k => w σ H Q en fun b H2 s e r => k b H2 s e (i b r)
theorem WT.of {R : Bool → Prop} {t : Bool} (w : DT X B h e ss t) (r : R t) : WT X B h e ss R := WT.imp w fun d q => by rw [q]; exact r
theorem WT.eq {s t : Bool} (w : DT X B h e ss s) (r : s = t) : DT X B h e ss t := by rw [← r]; exact w
theorem WA.imp {R R' : List PyData → Prop} (w : WA X B h es ss R) (i : ∀ d, R d → R' d) : WA X B h es ss R' := fun σ H Q en k => w σ H Q en fun b H2 ds s e dd r => k b H2 ds s e dd (i ds r)

/-! ### names, constants -/
theorem de_var (i : Nat) {n : Str} (hi : ss[i]? = some (.d x) := by rfl) (hN : X.N[i]? = some n := by rfl) (hv : Vis X.env.scope n := by first | exact Or.inl rfl | exact Or.inr (Or.inl rfl) | exact Or.inr (Or.inr rfl))
    (hd : (n == ("__debug__" : Str)) = false := by decide) (hcd : (n == ("__classdict__" : Str)) = false := by decide) : DE X B h (.Name n pos) ss x := fun σ H Q en k => by
  obtain ⟨v, h1, h2⟩ := en.at_d hi
  exact wE_of (pe_var hN hv hd hcd) ⟨v, h1, k v H x (Kp.refl _) en h2 rfl⟩
theorem de_varL (i : Nat) {n : Str} {q : Addr} {ds : List PyData} (hi : ss[i]? = some (.l q ds) := by rfl) (hN : X.N[i]? = some n := by rfl) (hv : Vis X.env.scope n := by first | exact Or.inl rfl | exact Or.inr (Or.inl rfl) | exact Or.inr (Or.inr rfl))
    (hd : (n == ("__debug__" : Str)) = false := by decide) (hcd : (n == ("__classdict__" : Str)) = false := by decide) : DE X B h (.Name n pos) ss (.list ds) := fun σ H Q en k => by
  obtain ⟨h1, h2, _, _, xs, h3, h4⟩ := en.at_l hi
  exact wE_of (pe_var hN hv hd hcd) ⟨_, h1, k _ H _ (Kp.refl _) en (.lst (hid_some.mpr ⟨h2, h3⟩) h4) rfl⟩
theorem de_int {i : Int} {j} : DE X B h (.Constant (.int i) j pos) ss (.int i) := fun σ H Q en k => wE_of pe_int (k _ H _ (Kp.refl _) en (.int i) rfl)
theorem de_bl {i : Bool} {j} : DE X B h (.Constant (.bool i) j pos) ss (.bool i) := fun σ H Q en k => wE_of pe_bl (k _ H _ (Kp.refl _) en (.bl i) rfl)
theorem de_non {j} : DE X B h (.Constant .none j pos) ss .none := fun σ H Q en k => wE_of pe_non (k _ H _ (Kp.refl _) en .non rfl)
theorem de_str {i : Str} {j} : DE X B h (.Constant (.str i) j pos) ss (.str i) := fun σ H Q en k => wE_of pe_str (k _ H _ (Kp.refl _) en (.str i) rfl)

/-! ### two-place operators -/
/-- what a rule by values gives on data -/
def R2D (h : List Addr) (r : R2) (x y : PyData) (R : PyData → Prop) : Prop :=
  ∀ (H : Hp) (vx vy : V) (Q : VK), (∀ q ∈ h, IsL H q) → Da (hid h H) vx x → Da (hid h H) vy y → (∀ v H2 d, Same H H2 → Da (hid h H2) v d → R d → Q v H2) → r vx vy H Q
theorem we_op {op : Operator} {r : R2} {Rb : PyData → PyData → Prop} (ho : OpR X (binaryOp op) r) (ha : WE X B h a ss Ra) (hb : ∀ x, Ra x → WE X B h b ss (Rb x)) (hr : ∀ x y, Ra x → Rb x y → R2D h r x y R) :
    WE X B h (.BinOp a op b pos) ss R := fun σ H Q en k => by
  refine wE_of (pe_op ho pe_w pe_w) ?_
  show wE X a σ H (fun x H1 => wE X b σ H1 fun y H2 => r x y H2 Q)
  exact ha σ H _ en fun vx H1 x s1 en1 dx rx => hb x rx σ H1 _ en1 fun vy H2 y s2 en2 dy ry => hr x y rx ry H2 vx vy Q en2.dom (dx.mono (en1.up s2)) dy
    fun v H3 d s3 dv rd => k v H3 d (s1.trans (s2.trans (Kp.of s3))) (en2.same s3) dv rd
theorem de_op {op : Operator} {r : R2} (ho : OpR X (binaryOp op) r) (ha : DE X B h a ss x) (hb : DE X B h b ss y) (hr : R2D h r x y R) : WE X B h (.BinOp a op b pos) ss R :=
  we_op ho ha (fun _ _ => hb) fun _ _ e1 e2 => by rw [e1, e2]; exact hr
theorem r2_I0 {g : Int → Int → V} {i j : Int} {d : PyData} (hd : ∀ H, Da H (g i j) d) (hR : R d) : R2D h (rI0 g) (.int i) (.int j) R := fun H vx vy Q _ dx dy k => by
  cases dx
  cases dy
  exact ⟨i, j, rfl, rfl, k _ H d (Same.refl _) (hd _) hR⟩
theorem r2_I {C : Int → Int → Prop} {g : Int → Int → V} {i j : Int} {d : PyData} (hC : C i j) (hd : ∀ H, Da H (g i j) d) (hR : R d) : R2D h (rI C g) (.int i) (.int j) R := fun H vx vy Q _ dx dy k => by
  cases dx
  cases dy
  exact ⟨i, j, rfl, rfl, hC, k _ H d (Same.refl _) (hd _) hR⟩
/-- an operator on ints, the operands drawn -/
theorem we_opI {op : Operator} {C : Int → Int → Prop} {g : Int → Int → Int} {Ra Rb : Int → Prop} (ho : OpR X (binaryOp op) (rI C fun i j => .int (g i j))) (ha : WE X B h a ss fun x => ∃ i, x = .int i ∧ Ra i) (hb : WE X B h b ss fun x => ∃ i, x = .int i ∧ Rb i)
    (hr : ∀ i j, Ra i → Rb j → C i j ∧ R (.int (g i j))) : WE X B h (.BinOp a op b pos) ss R :=
  we_op ho ha (fun _ _ => hb) fun x y ⟨i, e1, r1⟩ ⟨j, e2, r2⟩ => by
    subst e1 e2
    exact r2_I (hr i j r1 r2).1 (fun _ => .int _) (hr i j r1 r2).2
variable {i j : Int}
theorem de_add (ha : DE X B h a ss (.int i)) (hb : DE X B h b ss (.int j)) : DE X B h (.BinOp a .Add b pos) ss (.int (i + j)) := de_op op_add ha hb (r2_I0 (fun _ => .int _) rfl)
theorem de_sub (ha : DE X B h a ss (.int i)) (hb : DE X B h b ss (.int j)) : DE X B h (.BinOp a .Sub b pos) ss (.int (i - j)) := de_op op_sub ha hb (r2_I0 (fun _ => .int _) rfl)
theorem de_mul (ha : DE X B h a ss (.int i)) (hb : DE X B h b ss (.int j)) (hc : CMul i j) : DE X B h (.BinOp a .Mult b pos) ss (.int (i * j)) := de_op op_mul ha hb (r2_I hc (fun _ => .int _) rfl)
theorem de_modN (ha : DE X B h a ss (.int i)) (hb : DE X B h b ss (.int j)) (hc : j ≠ 0) : DE X B h (.BinOp a .Mod b pos) ss (.int (i.fmod j)) := de_op op_modN ha hb (r2_I hc (fun _ => .int _) rfl)
theorem de_fdivN (ha : DE X B h a ss (.int i)) (hb : DE X B h b ss (.int j)) (hc : CDivN i j) : DE X B h (.BinOp a .FloorDiv b pos) ss (.int (i.fdiv j)) := de_op op_fdivN ha hb (r2_I hc (fun _ => .int _) rfl)
theorem de_pow (ha : DE X B h a ss (.int i)) (hb : DE X B h b ss (.int j)) (hc : CPow i j) : DE X B h (.BinOp a .Pow b pos) ss (.int (i ^ j.toNat)) := de_op op_pow ha hb (r2_I hc (fun _ => .int _) rfl)
theorem de_shl (ha : DE X B h a ss (.int i)) (hb : DE X B h b ss (.int j)) (hc : CPow i j) : DE X B h (.BinOp a .LShift b pos) ss (.int (i * 2 ^ j.toNat)) := de_op op_shl ha hb (r2_I hc (fun _ => .int _) rfl)
theorem de_shr (ha : DE X B h a ss (.int i)) (hb : DE X B h b ss (.int j)) (hc : 0 ≤ j) : DE X B h (.BinOp a .RShift b pos) ss (.int (i / 2 ^ j.toNat)) := de_op op_shr ha hb (r2_I hc (fun _ => .int _) rfl)
theorem de_and (ha : DE X B h a ss (.int i)) (hb : DE X B h b ss (.int j)) : DE X B h (.BinOp a .BitAnd b pos) ss (.int (Builtin.bitAnd i j)) := de_op op_and ha hb (r2_I0 (fun _ => .int _) rfl)
theorem de_or (ha : DE X B h a ss (.int i)) (hb : DE X B h b ss (.int j)) : DE X B h (.BinOp a .BitOr b pos) ss (.int (Builtin.bitOr i j)) := de_op op_or ha hb (r2_I0 (fun _ => .int _) rfl)
theorem de_neg (ha : DE X B h a ss (.int i)) : DE X B h (.UnaryOp .USub a pos) ss (.int (-i)) := fun σ H Q en k => by
  refine wE_of (pe_un un_neg pe_w) ?_
  exact ha σ H _ en fun vx H1 x s1 en1 dx rx => by
    subst rx
    cases dx
    exact ⟨i, rfl, k _ H1 _ s1 en1 (.int _) rfl⟩
end
end F26

/-! comparisons, tests, displays, built-in calls, subscripts -/
namespace F26
open PySem PySem.Spec L2

def wC (X : Cx) (op : CmpOp) (a b : Expr) : TE := fun σ H Q => ∀ (pins : List (Addr × Obj)) (s : Shared), Inv X pins σ H s →
  wpAny (model X.prog X.w) X.A (eval a X.env) (fun v s₁ => wpAny (model X.prog X.w) X.A (eval b X.env) (fun u s₂ => wpAny (model X.prog X.w) X.A (compareOp op v u) (EP X pins σ Q) X.xe s₂) X.xe s₁) X.xe s
theorem pc_w {X : Cx} {op : CmpOp} {a b : Expr} : PC X op a b (wC X op a b) := ⟨fun pins s _ _ _ I h => h pins s I⟩
def WC (X : Cx) (B : Bs) (h : List Addr) (op : CmpOp) (a b : Expr) (ss : List Sl) (R : Bool → Prop) : Prop :=
  ∀ (σ : L2.St) (H : Hp) (Q : VK), En X.K B h H σ ss → (∀ c H2, Kp B H H2 → En X.K B h H2 σ ss → R c → Q (.bl c) H2) → wC X op a b σ H Q
abbrev DC (X : Cx) (B : Bs) (h : List Addr) (op : CmpOp) (a b : Expr) (ss : List Sl) (c : Bool) : Prop := WC X B h op a b ss (fun x => x = c)
def R2B (h : List Addr) (r : R2) (x y : PyData) (R : Bool → Prop) : Prop :=
  ∀ (H : Hp) (vx vy : V) (Q : VK), (∀ q ∈ h, IsL H q) → Da (hid h H) vx x → Da (hid h H) vy y → (∀ c, R c → Q (.bl c) H) → r vx vy H Q

section
variable {X : Cx} {B : Bs} {h : List Addr} {ss : List Sl} {e a b c : Expr} {es rest : List Expr} {pos pos' p : Pos} {R Ra : PyData → Prop} {x y z : PyData} {op : CmpOp} {i j k : Int} {s t u : Bool}
theorem wc_op {r : R2} {Rb : PyData → PyData → Prop} {T : Bool → Prop} (ho : OpR X (compareOp op) r) (ha : WE X B h a ss Ra) (hb : ∀ x, Ra x → WE X B h b ss (Rb x)) (hr : ∀ x y, Ra x → Rb x y → R2B h r x y T) : WC X B h op a b ss T := fun σ H Q en k pins s I => by
  refine thn (ha σ H (fun vx H1 => wE X b σ H1 fun vy H2 => r vx vy H2 Q) en (fun vx H1 x s1 en1 dx rx => hb x rx σ H1 _ en1 fun vy H2 y s2 en2 dy ry => hr x y rx ry H2 vx vy Q en2.dom (dx.mono (en1.up s2)) dy fun c rc => k c H2 (s1.trans s2) en2 rc) pins s I)
    fun v s1 ⟨vx, H1, I1, r1, q1⟩ => ?_
  exact thn (q1 pins s1 I1) fun u s2 ⟨vy, H2, I2, r2, q2⟩ => ho pins s2 σ H2 vx vy v u Q I2 r1 r2 q2
theorem dc_op {r : R2} {T : Bool → Prop} (ho : OpR X (compareOp op) r) (ha : DE X B h a ss x) (hb : DE X B h b ss y) (hr : R2B h r x y T) : WC X B h op a b ss T :=
  wc_op ho ha (fun _ _ => hb) fun _ _ e1 e2 => by rw [e1, e2]; exact hr
theorem WC.imp {S T : Bool → Prop} (w : WC X B h op a b ss S) (i : ∀ d, S d → T d) : WC X B h op a b ss T := fun σ H Q en k => w σ H Q en fun c H2 s e r => k c H2 s e (i c r)
theorem WC.eq (w : DC X B h op a b ss s) (r : s = t) : DC X B h op a b ss t := by rw [← r]; exact w
theorem we_c {T : Bool → Prop} (w : WC X B h op a b ss T) (hm : behindInMarks op b = false := by first | exact nobehind _ (by decide) (by decide) | rfl) : WE X B h (.Compare a [op] [b] pos) ss (fun d => ∃ c, d = .bool c ∧ T c) :=
  fun σ H Q en k => wE_of (pe_cmp pc_w hm) (w σ H Q en fun c H2 s e r => k _ H2 _ s e (.bl c) ⟨c, rfl, r⟩)
theorem wt_c {T : Bool → Prop} (w : WC X B h op a b ss T) (hm : behindInMarks op b = false := by first | exact nobehind _ (by decide) (by decide) | rfl) : WT X B h (.Compare a [op] [b] pos) ss T :=
  fun σ H Q en k => wT_of (pt_cmp pc_w hm) (w σ H _ en fun c H2 s e r => ⟨c, rfl, k c H2 s e r⟩)
theorem de_c (w : DC X B h op a b ss s) (hm : behindInMarks op b = false := by first | exact nobehind _ (by decide) (by decide) | rfl) : DE X B h (.Compare a [op] [b] pos) ss (.bool s) :=
  (we_c w hm).imp fun d ⟨c, e, r⟩ => by rw [e, r]
theorem dt_c (w : DC X B h op a b ss s) (hm : behindInMarks op b = false := by first | exact nobehind _ (by decide) (by decide) | rfl) : DT X B h (.Compare a [op] [b] pos) ss s := wt_c w hm
/-- an expression whose value is a bool, as a test -/
theorem wt_val {T : Bool → Prop} (w : WE X B h e ss (fun d => ∃ c, d = .bool c ∧ T c)) (he : ∀ whole, isTrue e X.env whole = (do let v ← whole; standAt e.pos; holding [v] (truthy v)) := by intro _; rfl) : WT X B h e ss T :=
  fun σ H Q en k => wT_of (pt_val pe_w he) (w σ H _ en fun v H2 d s e dd ⟨c, ed, r⟩ => by
    subst ed
    cases dd
    exact ⟨c, rfl, k c H2 s e r⟩)
theorem dt_val (w : DE X B h e ss (.bool s)) (he : ∀ whole, isTrue e X.env whole = (do let v ← whole; standAt e.pos; holding [v] (truthy v)) := by intro _; rfl) : DT X B h e ss s :=
  wt_val (w.imp fun d q => ⟨s, q, rfl⟩) he

/-! ### comparisons -/
theorem r2_cI {g : Int → Int → Bool} {T : Bool → Prop} (hR : T (g i j)) : R2B h (rI0 fun i j => .bl (g i j)) (.int i) (.int j) T := fun H vx vy Q _ dx dy k => by
  cases dx
  cases dy
  exact ⟨i, j, rfl, rfl, k _ hR⟩
theorem dc_lt (ha : DE X B h a ss (.int i)) (hb : DE X B h b ss (.int j)) : DC X B h .Lt a b ss (decide (i < j)) := dc_op op_lt ha hb (r2_cI rfl)
theorem dc_gt (ha : DE X B h a ss (.int i)) (hb : DE X B h b ss (.int j)) : DC X B h .Gt a b ss (decide (j < i)) := dc_op op_gt ha hb (r2_cI rfl)
theorem dc_ge (ha : DE X B h a ss (.int i)) (hb : DE X B h b ss (.int j)) : DC X B h .GtE a b ss (decide (j ≤ i)) := dc_op op_ge ha hb (r2_cI rfl)
theorem int_dec {i j : Int} : decide (V.int i = V.int j) = decide (i = j) := by
  by_cases q : i = j
  · subst q
    simp
  · simp [q]
theorem dc_eqI (ha : DE X B h a ss (.int i)) (hb : DE X B h b ss (.int j)) : DC X B h .Eq a b ss (decide (i = j)) := dc_op op_eq ha hb fun H vx vy Q _ dx dy k => by
  cases dx
  cases dy
  refine ⟨rfl, ?_⟩
  rw [int_dec]
  exact k _ rfl
theorem dc_neI (ha : DE X B h a ss (.int i)) (hb : DE X B h b ss (.int j)) : DC X B h .NotEq a b ss (!decide (i = j)) := dc_op op_ne ha hb fun H vx vy Q _ dx dy k => by
  cases dx
  cases dy
  refine ⟨rfl, ?_⟩
  rw [int_dec]
  exact k _ rfl
theorem dc_eqB (ha : DE X B h a ss (.bool s)) (hb : DE X B h b ss (.bool t)) : DC X B h .Eq a b ss (decide (s = t)) := dc_op op_eq ha hb fun H vx vy Q _ dx dy k => by
  cases dx
  cases dy
  refine ⟨rfl, ?_⟩
  have e : decide (V.bl s = V.bl t) = decide (s = t) := by cases s <;> cases t <;> rfl
  rw [e]
  exact k _ rfl
theorem dc_neB (ha : DE X B h a ss (.bool s)) (hb : DE X B h b ss (.bool t)) : DC X B h .NotEq a b ss (!decide (s = t)) := dc_op op_ne ha hb fun H vx vy Q _ dx dy k => by
  cases dx
  cases dy
  refine ⟨rfl, ?_⟩
  have e : decide (V.bl s = V.bl t) = decide (s = t) := by cases s <;> cases t <;> rfl
  rw [e]
  exact k _ rfl
theorem dc_eqS {v w : Str} (ha : DE X B h a ss (.str v)) (hb : DE X B h b ss (.str w)) : DC X B h .Eq a b ss (decide (v = w)) := dc_op op_eq ha hb fun H vx vy Q _ dx dy k => by
  cases dx
  cases dy
  refine ⟨rfl, ?_⟩
  have e : decide (V.str v = V.str w) = decide (v = w) := by
    by_cases q : v = w
    · subst q
      simp
    · simp [q]
  rw [e]
  exact k _ rfl
theorem dc_neS {v w : Str} (ha : DE X B h a ss (.str v)) (hb : DE X B h b ss (.str w)) : DC X B h .NotEq a b ss (!decide (v = w)) := dc_op op_ne ha hb fun H vx vy Q _ dx dy k => by
  cases dx
  cases dy
  refine ⟨rfl, ?_⟩
  have e : decide (V.str v = V.str w) = decide (v = w) := by
    by_cases q : v = w
    · subst q
      simp
    · simp [q]
  rw [e]
  exact k _ rfl
/-- data at any depth -/
theorem shaped_lay {d : PyData} (s : SeqAt.shaped d = true) : d.canLay0 = true := by
  unfold SeqAt.shaped at s
  simp only [Bool.and_eq_true] at s
  exact s.1
theorem dc_eqD (hu : X.A.units + 64 < cLine) (sx : SeqAt.shaped x = true) (sy : SeqAt.shaped y = true) (ha : DE X B h a ss x) (hb : DE X B h b ss y) : DC X B h .Eq a b ss (PyData.eqv x y) := dc_op (op_eqD hu) ha hb fun H vx vy Q _ dx dy k =>
  ⟨x, y, (dx.mono hid_sub).dp (shaped_lay sx), (dy.mono hid_sub).dp (shaped_lay sy), sx, sy, k _ rfl⟩
theorem dc_neD (hu : X.A.units + 64 < cLine) (sx : SeqAt.shaped x = true) (sy : SeqAt.shaped y = true) (ha : DE X B h a ss x) (hb : DE X B h b ss y) : DC X B h .NotEq a b ss (!PyData.eqv x y) := dc_op (op_neD hu) ha hb fun H vx vy Q _ dx dy k =>
  ⟨x, y, (dx.mono hid_sub).dp (shaped_lay sx), (dy.mono hid_sub).dp (shaped_lay sy), sx, sy, k _ rfl⟩
/-- is None -/
def isNon : PyData → Bool
  | .none => true
  | _ => false
theorem Da.non_iff {H : Hp} {v : V} {d : PyData} (q : Da H v d) : decide (v = .non) = isNon d := by
  cases q <;> simp [isNon, dKd, dTd]
theorem dc_isN (ha : DE X B h a ss x) {j} : DC X B h .Is a (.Constant .none j pos') ss (isNon x) := dc_op op_isN ha de_non fun H vx vy Q _ dx dy k => by
  cases dy
  refine ⟨rfl, ?_⟩
  rw [dx.non_iff]
  exact k _ rfl
theorem dc_notN (ha : DE X B h a ss x) {j} : DC X B h .IsNot a (.Constant .none j pos') ss (!isNon x) := dc_op op_notN ha de_non fun H vx vy Q _ dx dy k => by
  cases dy
  refine ⟨rfl, ?_⟩
  rw [dx.non_iff]
  exact k _ rfl
theorem dc_isB (ha : DE X B h a ss (.bool s)) (hb : DE X B h b ss (.bool t)) : DC X B h .Is a b ss (decide (s = t)) := dc_op op_isBl ha hb fun H vx vy Q _ dx dy k => by
  cases dx
  cases dy
  exact ⟨s, t, rfl, rfl, k _ rfl⟩
theorem dc_notB (ha : DE X B h a ss (.bool s)) (hb : DE X B h b ss (.bool t)) : DC X B h .IsNot a b ss (!decide (s = t)) := dc_op op_notBl ha hb fun H vx vy Q _ dx dy k => by
  cases dx
  cases dy
  exact ⟨s, t, rfl, rfl, k _ rfl⟩

/-! ### in, not in -/
def rInS (K : PySem.W.Frag) (neg : Bool) : R2 := fun x y H Q => ∃ d ds, Dp K H x d ∧ (Dp K H y (.list ds) ∨ Dp K H y (.tuple ds)) ∧ SeqAt.shaped d = true ∧ SeqAt.shaped (.list ds) = true ∧ Q (.bl (if neg then !ds.any fun z => PyData.eqv z d else ds.any fun z => PyData.eqv z d)) H
theorem op_inS (hu : X.A.units + 65 < cLine) : OpR X (compareOp .In) (rInS X.K false) := by
  intro pins s σ H x y v u Q I rx ry h
  obtain ⟨d, ds, hd, he, sd, se, q⟩ := h
  obtain ⟨as, r1⟩ := Dp.reads I d x v hd rx
  rcases he with he | he
  · obtain ⟨bs, r2⟩ := Dp.reads I (.list ds) y u he ry
    exact SeqAt.in_list_reads r2 r1 (SeqAt.canLay_of_shaped se) (SeqAt.canLay_of_shaped sd) (PyProof.Rows.room_in_shaped sd hu) ⟨.bl _, H, I, rfl, q⟩
  · obtain ⟨bs, r2⟩ := Dp.reads I (.tuple ds) y u he ry
    exact SeqAt.in_tuple_reads r2 r1 (SeqAt.canLay_of_shaped se) (SeqAt.canLay_of_shaped sd) (PyProof.Rows.room_in_shaped sd hu) ⟨.bl _, H, I, rfl, q⟩
theorem op_notInS (hu : X.A.units + 65 < cLine) : OpR X (compareOp .NotIn) (rInS X.K true) := by
  intro pins s σ H x y v u Q I rx ry h
  obtain ⟨d, ds, hd, he, sd, se, q⟩ := h
  obtain ⟨as, r1⟩ := Dp.reads I d x v hd rx
  rcases he with he | he
  · obtain ⟨bs, r2⟩ := Dp.reads I (.list ds) y u he ry
    exact SeqAt.notIn_list_reads r2 r1 (SeqAt.canLay_of_shaped se) (SeqAt.canLay_of_shaped sd) (PyProof.Rows.room_in_shaped sd hu) ⟨.bl _, H, I, rfl, q⟩
  · obtain ⟨bs, r2⟩ := Dp.reads I (.tuple ds) y u he ry
    exact SeqAt.notIn_tuple_reads r2 r1 (SeqAt.canLay_of_shaped se) (SeqAt.canLay_of_shaped sd) (PyProof.Rows.room_in_shaped sd hu) ⟨.bl _, H, I, rfl, q⟩
def isSq (ds : List PyData) (y : PyData) : Prop := y = .list ds ∨ y = .tuple ds
theorem isq_l {ds : List PyData} : isSq ds (.list ds) := .inl rfl
theorem isq_t {ds : List PyData} : isSq ds (.tuple ds) := .inr rfl
theorem sq_dp {K : PySem.W.Frag} {H : Hp} {v : V} {ds : List PyData} (q : isSq ds y) (d : Da H v y) (s : SeqAt.shaped (.list ds) = true) : Dp K H v (.list ds) ∨ Dp K H v (.tuple ds) := by
  have c := shaped_lay s
  rcases q with q | q
  · subst q
    exact .inl (d.dp c)
  · subst q
    exact .inr (d.dp (by simpa [PyData.canLay0] using c))
theorem dc_in {ds : List PyData} (hu : X.A.units + 65 < cLine) (q : isSq ds y) (sx : SeqAt.shaped x = true) (sy : SeqAt.shaped (.list ds) = true) (ha : DE X B h a ss x) (hb : DE X B h b ss y) : DC X B h .In a b ss (ds.any fun z => PyData.eqv z x) :=
  dc_op (op_inS hu) ha hb fun H vx vy Q _ dx dy k => ⟨x, ds, (dx.mono hid_sub).dp (shaped_lay sx), sq_dp q (dy.mono hid_sub) sy, sx, sy, k _ rfl⟩
theorem dc_notIn {ds : List PyData} (hu : X.A.units + 65 < cLine) (q : isSq ds y) (sx : SeqAt.shaped x = true) (sy : SeqAt.shaped (.list ds) = true) (ha : DE X B h a ss x) (hb : DE X B h b ss y) : DC X B h .NotIn a b ss (!ds.any fun z => PyData.eqv z x) :=
  dc_op (op_notInS hu) ha hb fun H vx vy Q _ dx dy k => ⟨x, ds, (dx.mono hid_sub).dp (shaped_lay sx), sq_dp q (dy.mono hid_sub) sy, sx, sy, k _ rfl⟩

/-! ### and, or, not, if else -/
theorem wt_w {T : Bool → Prop} (w : WW X B h e ss T) : WT X B h e ss T := fun σ H Q en k => wT_of pw_w.pt (w σ H Q en k)
theorem ww_and1 {T : Bool → Prop} (w : WT X B h a ss T) : WW X B h (.BoolOp .And [a] pos) ss T := fun σ H Q en k => wW_of (pw_and1 pt_w) (w σ H Q en k)
theorem ww_or1 {T : Bool → Prop} (w : WT X B h a ss T) : WW X B h (.BoolOp .Or [a] pos) ss T := fun σ H Q en k => wW_of (pw_or1 pt_w) (w σ H Q en k)
theorem ww_and {S T : Bool → Prop} (w : WT X B h a ss S) (w2 : S true → WW X B h (.BoolOp .And (b :: rest) pos) ss T) (f : S false → T false) : WW X B h (.BoolOp .And (a :: b :: rest) pos) ss T := fun σ H Q en k =>
  wW_of (pw_and pt_w pw_w) (w σ H _ en fun c H2 s e r => by
    cases c with
    | true => exact iteT (w2 r σ H2 Q e fun b H3 s3 e3 r3 => k b H3 (s.trans s3) e3 r3)
    | false => exact iteF (k false H2 s e (f r)))
theorem ww_or {S T : Bool → Prop} (w : WT X B h a ss S) (w2 : S false → WW X B h (.BoolOp .Or (b :: rest) pos) ss T) (f : S true → T true) : WW X B h (.BoolOp .Or (a :: b :: rest) pos) ss T := fun σ H Q en k =>
  wW_of (pw_or pt_w pw_w) (w σ H _ en fun c H2 s e r => by
    cases c with
    | false => exact iteF (w2 r σ H2 Q e fun b H3 s3 e3 r3 => k b H3 (s.trans s3) e3 r3)
    | true => exact iteT (k true H2 s e (f r)))
theorem dt_and (w : DT X B h a ss s) (w2 : s = true → DT X B h b ss t) : DT X B h (.BoolOp .And [a, b] pos) ss (s && t) :=
  wt_w (ww_and w (fun e => ww_and1 ((w2 e.symm).imp fun d q => by rw [q, ← e]; rfl)) fun e => by rw [← e]; rfl)
theorem dt_or (w : DT X B h a ss s) (w2 : s = false → DT X B h b ss t) : DT X B h (.BoolOp .Or [a, b] pos) ss (s || t) :=
  wt_w (ww_or w (fun e => ww_or1 ((w2 e.symm).imp fun d q => by rw [q, ← e]; rfl)) fun e => by rw [← e]; rfl)
theorem dt_and3 (w : DT X B h a ss s) (w2 : s = true → DT X B h b ss t) (w3 : s = true → t = true → DT X B h c ss u) : DT X B h (.BoolOp .And [a, b, c] pos) ss (s && (t && u)) :=
  wt_w (ww_and w (fun e => ww_and (w2 e.symm) (fun e' => ww_and1 ((w3 e.symm e'.symm).imp fun d q => by rw [q, ← e, ← e']; rfl)) fun e' => by rw [← e, ← e']; rfl) fun e => by rw [← e]; rfl)
theorem wt_not {T : Bool → Prop} (w : WT X B h a ss fun c => T (!c)) : WT X B h (.UnaryOp .Not a pos) ss T := fun σ H Q en k => wT_of (pt_not pt_w) (w σ H _ en fun c H2 s e r => k (!c) H2 s e r)
theorem dt_not (w : DT X B h a ss s) : DT X B h (.UnaryOp .Not a pos) ss (!s) := wt_not (WT.imp w fun c q => by rw [q])
theorem we_if {S : Bool → Prop} (w : WT X B h c ss S) (w1 : S true → WE X B h a ss R) (w2 : S false → WE X B h b ss R) : WE X B h (.IfExp c a b pos) ss R := fun σ H Q en k =>
  wE_of (pe_ifExp pt_w pe_w pe_w) (w σ H _ en fun c H2 s e r => by
    cases c with
    | true => exact iteT (w1 r σ H2 Q e fun v H3 d s3 e3 dd rd => k v H3 d (s.trans s3) e3 dd rd)
    | false => exact iteF (w2 r σ H2 Q e fun v H3 d s3 e3 dd rd => k v H3 d (s.trans s3) e3 dd rd))
theorem de_if (w : DT X B h c ss s) (w1 : s = true → DE X B h a ss x) (w2 : s = false → DE X B h b ss y) : DE X B h (.IfExp c a b pos) ss (if s = true then x else y) :=
  we_if w (fun e => (w1 e.symm).imp fun d q => by rw [q, if_pos e.symm]) fun e => (w2 e.symm).imp fun d q => by rw [q, if_neg (by rw [← e]; exact Bool.false_ne_true)]
/-- .. as values -/
theorem de_andV1 (w : DE X B h a ss (.bool s)) : DE X B h (.BoolOp .And [a] pos) ss (.bool s) := fun σ H Q en k => wE_of (pe_one pe_w) (w σ H Q en k)
theorem de_orV1 (w : DE X B h a ss (.bool s)) : DE X B h (.BoolOp .Or [a] pos) ss (.bool s) := fun σ H Q en k => wE_of (pe_one pe_w) (w σ H Q en k)
theorem de_andV (w : DE X B h a ss (.bool s)) (w2 : s = true → DE X B h (.BoolOp .And (b :: rest) pos) ss (.bool t)) : DE X B h (.BoolOp .And (a :: b :: rest) pos) ss (.bool (s && t)) := fun σ H Q en k =>
  wE_of (pe_and pe_w pe_w) (w σ H _ en fun v H2 d s' e dd r => by
    subst r
    cases dd
    refine ⟨s, rfl, ?_⟩
    cases s with
    | true => exact iteT (w2 rfl σ H2 Q e fun v H3 d s3 e3 dd rd => k v H3 d (s'.trans s3) e3 dd rd)
    | false => exact iteF (k _ H2 _ s' e (.bl false) rfl))
theorem de_orV (w : DE X B h a ss (.bool s)) (w2 : s = false → DE X B h (.BoolOp .Or (b :: rest) pos) ss (.bool t)) : DE X B h (.BoolOp .Or (a :: b :: rest) pos) ss (.bool (s || t)) := fun σ H Q en k =>
  wE_of (pe_or pe_w pe_w) (w σ H _ en fun v H2 d s' e dd r => by
    subst r
    cases dd
    refine ⟨s, rfl, ?_⟩
    cases s with
    | false => exact iteF (w2 rfl σ H2 Q e fun v H3 d s3 e3 dd rd => k v H3 d (s'.trans s3) e3 dd rd)
    | true => exact iteT (k _ H2 _ s' e (.bl true) rfl))

/-! ### arguments, displays -/
theorem wa_nil : DA X B h [] ss [] := fun σ H Q en k => wA_of pa_nil (k [] H [] (Kp.refl _) en .nil rfl)
theorem wa_cons {Rr : PyData → List PyData → Prop} (ha : WE X B h e ss Ra) (hr : ∀ d, Ra d → WA X B h es ss (Rr d)) (hs : starEach (e :: es) X.env = (false, eval e X.env) :: starEach es X.env := by rfl) :
    WA X B h (e :: es) ss (fun ds => ∃ d r, ds = d :: r ∧ Ra d ∧ Rr d r) := fun σ H Q en k =>
  wA_of (pa_cons pe_w pa_w hs) (ha σ H _ en fun v H1 d s1 e1 dd rd => hr d rd σ H1 _ e1 fun vs H2 ds s2 e2 dds rds => k (v :: vs) H2 (d :: ds) (s1.trans s2) e2 (.cons (dd.mono (e1.up s2)) dds) ⟨d, ds, rfl, rd, rds⟩)
theorem da_cons {xs : List PyData} (ha : DE X B h e ss x) (hr : DA X B h es ss xs) (hs : starEach (e :: es) X.env = (false, eval e X.env) :: starEach es X.env := by rfl) : DA X B h (e :: es) ss (x :: xs) :=
  (wa_cons ha (fun _ _ => hr) hs).imp fun ds ⟨d, r, e1, e2, e3⟩ => by rw [e1, e2, e3]
theorem wa_one (ha : WE X B h e ss Ra) (hs : starEach (e :: []) X.env = (false, eval e X.env) :: starEach [] X.env := by rfl) : WA X B h [e] ss (fun ds => ∃ d, ds = [d] ∧ Ra d) :=
  (wa_cons ha (fun _ _ => wa_nil) hs).imp fun ds ⟨d, r, e1, e2, e3⟩ => ⟨d, by rw [e1, e3], e2⟩
theorem Da.newTup {H : Hp} {p : Addr} {xs : List V} {ds : List PyData} (dom : ∀ q ∈ h, IsL H q) (n : H p = none) (d : DaL (hid h H) xs ds) : Da (hid h (upd H p (.tup xs))) (.ref p) (.tuple ds) :=
  .tup (hid_some.mpr ⟨fun z => (dom p z).ne n, upd_same⟩) (d.mono (hid_same (Same.new n)))
theorem Da.newLst {H : Hp} {p : Addr} {xs : List V} {ds : List PyData} (dom : ∀ q ∈ h, IsL H q) (n : H p = none) (d : DaL (hid h H) xs ds) : Da (hid h (upd H p (.lst xs))) (.ref p) (.list ds) :=
  .lst (hid_some.mpr ⟨fun z => (dom p z).ne n, upd_same⟩) (d.mono (hid_same (Same.new n)))
theorem small_sz {n : Nat} (q : n ≤ 1000) : n ≤ sizeLine := Nat.le_trans q (by decide)
theorem we_tup {Rs : List PyData → Prop} {x1} (ha : WA X B h es ss Rs) (hz : ∀ ds, Rs ds → ds.length ≤ 1000) : WE X B h (.Tuple es x1 pos) ss (fun d => ∃ ds, d = .tuple ds ∧ Rs ds) := fun σ H Q en k =>
  wE_of (pe_tup pa_w) (ha σ H _ en fun vs H1 ds s1 e1 dd rd => ⟨by rw [dd.length]; exact small_sz (hz ds rd), fun p hp => k _ _ _ (s1.trans (Kp.of (Same.new hp))) (e1.same (Same.new hp)) (Da.newTup e1.dom hp dd) ⟨ds, rfl, rd⟩⟩)
theorem de_tup {ds : List PyData} {x1} (ha : DA X B h es ss ds) (hz : ds.length ≤ 1000 := by simp) : DE X B h (.Tuple es x1 pos) ss (.tuple ds) :=
  (we_tup ha fun _ e => by rw [e]; exact hz).imp fun d ⟨ds, e1, e2⟩ => by rw [e1, e2]
theorem we_lst {Rs : List PyData → Prop} (ha : WA X B h es ss Rs) (hz : ∀ ds, Rs ds → ds.length ≤ 1000) : WE X B h (.List es pos) ss (fun d => ∃ ds, d = .list ds ∧ Rs ds) := fun σ H Q en k =>
  wE_of (pe_lst pa_w) (ha σ H _ en fun vs H1 ds s1 e1 dd rd => ⟨by rw [dd.length]; exact small_sz (hz ds rd), fun p hp => k _ _ _ (s1.trans (Kp.of (Same.new hp))) (e1.same (Same.new hp)) (Da.newLst e1.dom hp dd) ⟨ds, rfl, rd⟩⟩)
theorem de_lst {ds : List PyData} (ha : DA X B h es ss ds) (hz : ds.length ≤ 1000 := by simp) : DE X B h (.List es pos) ss (.list ds) :=
  (we_lst ha fun _ e => by rw [e]; exact hz).imp fun d ⟨ds, e1, e2⟩ => by rw [e1, e2]

/-! ### built-in calls -/
def CRD (h : List Addr) (r : List V → Hp → VK → Prop) (ds : List PyData) (R : PyData → Prop) : Prop :=
  ∀ (H : Hp) (vs : List V) (Q : VK), (∀ q ∈ h, IsL H q) → DaL (hid h H) vs ds → (∀ v H2 d, Same H H2 → Da (hid h H2) v d → R d → Q v H2) → r vs H Q
theorem we_callB {id : String} {r : List V → Hp → VK → Prop} {f : Str} {Rs : List PyData → Prop} (hc : CallR X (.builtin id) r) (hg : Gl X f) (hm : X.mg f = none) (hv : bootBuiltins f = some (.builtin id)) (ha : WA X B h (e :: es) ss Rs) (hr : ∀ ds, Rs ds → CRD h r ds R)
    (hn : f ≠ "__name__" := by decide) (hdb : (f == ("__debug__" : Str)) = false := by decide) (he : starEach (e :: es) X.env = (false, eval e X.env) :: starEach es X.env := by rfl) (hpl : (backTo pos (starEach es X.env)).any (·.1) = false := by rfl) :
    WE X B h (.Call (.Name f p) (e :: es) [] pos) ss R := fun σ H Q en k =>
  wE_of (pe_callB hc hg hm hv pa_w hn hdb he hpl) (ha σ H _ en fun vs H1 ds s1 e1 dd rd => hr ds rd H1 vs Q e1.dom dd fun v H2 d s2 d2 r2 => k v H2 d (s1.trans (Kp.of s2)) (e1.same s2) d2 r2)
theorem we_callTy {T : String} {r : List V → Hp → VK → Prop} {f : Str} {Rs : List PyData → Prop} (hc : CallR X (.type T) r) (hg : Gl X f) (hm : X.mg f = none) (hv : bootBuiltins f = some (.type T)) (ha : WA X B h (e :: es) ss Rs) (hr : ∀ ds, Rs ds → CRD h r ds R)
    (hn : f ≠ "__name__" := by decide) (hdb : (f == ("__debug__" : Str)) = false := by decide) (he : starEach (e :: es) X.env = (false, eval e X.env) :: starEach es X.env := by rfl) (hpl : (backTo pos (starEach es X.env)).any (·.1) = false := by rfl) :
    WE X B h (.Call (.Name f p) (e :: es) [] pos) ss R := fun σ H Q en k =>
  wE_of (pe_callTy hc hg hm hv pa_w hn hdb he hpl) (ha σ H _ en fun vs H1 ds s1 e1 dd rd => hr ds rd H1 vs Q e1.dom dd fun v H2 d s2 d2 r2 => k v H2 d (s1.trans (Kp.of s2)) (e1.same s2) d2 r2)
end
end F26

/-! what is walked, targets, comprehensions -/
namespace F26
open PySem PySem.Spec L2

/-- an iterator J gives the data ds, while ok -/
structure Src (K : PySem.W.Frag) (J : It) (ds : List PyData) (ok : List Addr → Hp → Prop) : Prop where
  go : ∀ h i H, ok h H → i < ds.length → J.go i H
  stop : ∀ h H, ok h H → J.stop ds.length H
  yld : ∀ h i H v H' d, (∀ q ∈ h, IsL H q) → ok h H → ds[i]? = some d → J.yld i H v H' → Same H H' ∧ Da (hid h H') v d
  st : ∀ h H H', ok h H → Same (hid h H) (hid h H') → ok h H'
  hd : ∀ h H D o, ok h H → H D = none → ok (D :: h) (upd H D o)
def WI (X : Cx) (B : Bs) (h : List Addr) (tg iter : Expr) (ss : List Sl) (P : List PyData → Prop) : Prop :=
  ∃ wi, PI X tg iter wi ∧ ∀ (σ : L2.St) (H : Hp) (R : It → Hp → Prop), En X.K B h H σ ss →
    (∀ J H1 ds ok, P ds → Src X.K J ds ok → ok h H1 → Kp B H H1 → En X.K B h H1 σ ss → R J H1) → wi σ H R
abbrev DI (X : Cx) (B : Bs) (h : List Addr) (tg iter : Expr) (ss : List Sl) (ds : List PyData) : Prop := WI X B h tg iter ss (fun x => x = ds)

def okL (a : Addr) (ds : List PyData) (h : List Addr) (H : Hp) : Prop := ∃ xs, hid h H a = some (.lst xs) ∧ DaL (hid h H) xs ds
def okU (a : Addr) (ds : List PyData) (h : List Addr) (H : Hp) : Prop := ∃ xs, hid h H a = some (.tup xs) ∧ DaL (hid h H) xs ds
theorem same_hide {h : List Addr} {H : Hp} {D : Addr} {o : HO} (n : H D = none) : Same (hid h H) (hid (D :: h) (upd H D o)) := fun b ob q => by
  obtain ⟨q1, q2⟩ := hid_some.mp q
  have hb : b ≠ D := fun z => by rw [z, n] at q2; cases q2
  exact hid_some.mpr ⟨fun z => (List.mem_cons.mp z).elim hb q1, by rw [upd_ne hb]; exact q2⟩
theorem src_list {K : PySem.W.Frag} {a : Addr} {ds : List PyData} : Src K (Itl K a) ds (okL a ds) where
  go := fun h i H ⟨xs, e, d⟩ hi => by
    obtain ⟨v, hv, _⟩ := d.getD (List.getElem?_eq_getElem hi)
    exact ⟨xs, v, SqL.of (hid_some.mp e).2, hv⟩
  stop := fun h H ⟨xs, e, d⟩ => ⟨xs, SqL.of (hid_some.mp e).2, Nat.le_of_eq d.length⟩
  yld := fun h i H v H' d _ ⟨xs, e, dd⟩ hd ⟨e1, e2⟩ => by
    subst e1
    have hv := e2 xs (SqL.of (hid_some.mp e).2)
    obtain ⟨d', h1, h2⟩ := dd.get hv
    rw [hd] at h1
    cases h1
    exact ⟨Same.refl _, h2⟩
  st := fun h H H' ⟨xs, e, d⟩ s => ⟨xs, s _ _ e, d.mono s⟩
  hd := fun h H D o ⟨xs, e, d⟩ n => ⟨xs, same_hide n _ _ e, d.mono (same_hide n)⟩
theorem src_tup {K : PySem.W.Frag} {a : Addr} {ds : List PyData} : Src K (Itt K a) ds (okU a ds) where
  go := fun h i H ⟨xs, e, d⟩ hi => by
    obtain ⟨v, hv, _⟩ := d.getD (List.getElem?_eq_getElem hi)
    exact ⟨xs, v, SqT.of (hid_some.mp e).2, hv⟩
  stop := fun h H ⟨xs, e, d⟩ => ⟨xs, SqT.of (hid_some.mp e).2, Nat.le_of_eq d.length⟩
  yld := fun h i H v H' d _ ⟨xs, e, dd⟩ hd ⟨e1, e2⟩ => by
    subst e1
    have hv := e2 xs (SqT.of (hid_some.mp e).2)
    obtain ⟨d', h1, h2⟩ := dd.get hv
    rw [hd] at h1
    cases h1
    exact ⟨Same.refl _, h2⟩
  st := fun h H H' ⟨xs, e, d⟩ s => ⟨xs, s _ _ e, d.mono s⟩
  hd := fun h H D o ⟨xs, e, d⟩ n => ⟨xs, same_hide n _ _ e, d.mono (same_hide n)⟩
def rangeD (lo : Int) (n : Nat) : List PyData := (List.range n).map fun i => .int (lo + (i : Nat))
theorem rangeD_len {lo : Int} {n : Nat} : (rangeD lo n).length = n := by
  unfold rangeD
  rw [List.length_map, List.length_range]
theorem rangeD_get {lo : Int} {n i : Nat} {d : PyData} (e : (rangeD lo n)[i]? = some d) : i < n ∧ d = .int (lo + (i : Nat)) := by
  unfold rangeD at e
  rw [List.getElem?_map] at e
  by_cases hi : i < n
  · rw [List.getElem?_range hi] at e
    exact ⟨hi, (Option.some.inj e).symm⟩
  · rw [List.getElem?_eq_none (by rw [List.length_range]; omega)] at e
    cases e
theorem src_range {K : PySem.W.Frag} {lo : Int} {n : Nat} : Src K (Itr lo n) (rangeD lo n) (fun _ _ => True) where
  go := fun _ i _ _ hi => by rw [rangeD_len] at hi; exact hi
  stop := fun _ _ _ => by rw [rangeD_len]; exact Nat.le_refl _
  yld := fun h i H v H' d _ _ hd ⟨e1, e2⟩ => by
    obtain ⟨_, hd⟩ := rangeD_get hd
    subst e1 e2 hd
    exact ⟨Same.refl _, .int _⟩
  st := fun _ _ _ _ _ => trivial
  hd := fun _ _ _ _ _ _ => trivial
def enumD (ds : List PyData) : List PyData := ds.mapIdx fun i d => .tuple [.int (i : Nat), d]
theorem enumD_len {ds : List PyData} : (enumD ds).length = ds.length := by
  unfold enumD
  rw [List.length_mapIdx]
theorem enumD_get {ds : List PyData} {i : Nat} {d : PyData} (e : (enumD ds)[i]? = some d) : ∃ x, ds[i]? = some x ∧ d = .tuple [.int (i : Nat), x] := by
  unfold enumD at e
  rw [List.getElem?_mapIdx] at e
  cases q : ds[i]? with
  | none => rw [q] at e; cases e
  | some x =>
    rw [q] at e
    exact ⟨x, rfl, (Option.some.inj e).symm⟩
theorem src_enum {K : PySem.W.Frag} {a : Addr} {ds : List PyData} : Src K (Ite K a) (enumD ds) (okL a ds) where
  go := fun h i H ⟨xs, e, d⟩ hi => by
    rw [enumD_len] at hi
    obtain ⟨v, hv, _⟩ := d.getD (List.getElem?_eq_getElem hi)
    exact ⟨xs, v, SqL.of (hid_some.mp e).2, hv⟩
  stop := fun h H ⟨xs, e, d⟩ => ⟨xs, SqL.of (hid_some.mp e).2, by rw [enumD_len]; exact Nat.le_of_eq d.length⟩
  yld := fun h i H v H' d dom ⟨xs, e, dd⟩ hd ⟨T, x, e1, nT, e2, e3⟩ => by
    obtain ⟨y, hy, hd⟩ := enumD_get hd
    subst hd e1 e2
    have hv := e3 xs (SqL.of (hid_some.mp e).2)
    obtain ⟨d', h1, h2⟩ := dd.get hv
    rw [hy] at h1
    cases h1
    exact ⟨Same.new nT, Da.newTup dom nT (.cons (.int _) (.cons h2 .nil))⟩
  st := fun h H H' ⟨xs, e, d⟩ s => ⟨xs, s _ _ e, d.mono s⟩
  hd := fun h H D o ⟨xs, e, d⟩ n => ⟨xs, same_hide n _ _ e, d.mono (same_hide n)⟩

section
variable {X : Cx} {B : Bs} {h : List Addr} {ss : List Sl} {e a b c iter tg : Expr} {pos p tpos : Pos} {P : List PyData → Prop}
theorem wi_list (w : WE X B h iter ss (fun d => ∃ ds, d = .list ds ∧ P ds)) : WI X B h tg iter ss P := ⟨_, pi_list pe_w, fun σ H R en k => w σ H _ en fun v H1 d s e1 dd ⟨ds, ed, pd⟩ => by
  subst ed
  cases dd with
  | lst q r => exact ⟨_, rfl, ⟨_, SqL.of (hid_some.mp q).2⟩, k _ H1 ds _ pd src_list ⟨_, q, r⟩ s e1⟩⟩
theorem wi_tup (w : WE X B h iter ss (fun d => ∃ ds, d = .tuple ds ∧ P ds)) : WI X B h tg iter ss P := ⟨_, pi_tup pe_w, fun σ H R en k => w σ H _ en fun v H1 d s e1 dd ⟨ds, ed, pd⟩ => by
  subst ed
  cases dd with
  | tup q r => exact ⟨_, rfl, ⟨_, SqT.of (hid_some.mp q).2⟩, k _ H1 ds _ pd src_tup ⟨_, q, r⟩ s e1⟩⟩
theorem di_list {ds : List PyData} (w : DE X B h iter ss (.list ds)) : DI X B h tg iter ss ds := wi_list (w.imp fun d q => ⟨ds, q, rfl⟩)
theorem di_tup {ds : List PyData} (w : DE X B h iter ss (.tuple ds)) : DI X B h tg iter ss ds := wi_tup (w.imp fun d q => ⟨ds, q, rfl⟩)
theorem di_range1 {n : Int} (hg : Gl X "range") (hm : X.mg "range" = none) (w : DE X B h a ss (.int n)) (b1 : -(2 ^ 62) ≤ n) (b2 : n < 2 ^ 62) (hs : starEach [a] X.env = [(false, eval a X.env)] := by rfl) : DI X B h tg (.Call (.Name "range" p) [a] [] pos) ss (rangeD 0 n.toNat) :=
  ⟨_, pi_range1 hg hm pa_w hs, fun σ H R en k => wa_one w hs σ H _ en fun vs H1 ds s e1 dd ⟨d, ed, er⟩ => by
    subst ed er
    cases dd with
    | cons q r =>
      cases q
      cases r
      exact ⟨n, rfl, b1, b2, k _ H1 _ _ rfl src_range trivial s e1⟩⟩
theorem di_range2 {lo n : Int} (hg : Gl X "range") (hm : X.mg "range" = none) (w : DE X B h a ss (.int lo)) (w2 : DE X B h b ss (.int n)) (hb : -(2 ^ 62) ≤ lo ∧ lo < 2 ^ 62 ∧ -(2 ^ 62) ≤ n ∧ n < 2 ^ 62)
    (hs : starEach [a, b] X.env = [(false, eval a X.env), (false, eval b X.env)] := by rfl) (hs2 : starEach [b] X.env = [(false, eval b X.env)] := by rfl) (hs3 : starEach (a :: [b]) X.env = (false, eval a X.env) :: starEach [b] X.env := by rfl) (hs4 : starEach (b :: []) X.env = (false, eval b X.env) :: starEach [] X.env := by rfl) :
    DI X B h tg (.Call (.Name "range" p) [a, b] [] pos) ss (rangeD lo (n - lo).toNat) :=
  ⟨_, pi_range2 hg hm pa_w hs hs2, fun σ H R en k => da_cons w (da_cons w2 wa_nil hs4) hs3 σ H _ en fun vs H1 ds s e1 dd er => by
    subst er
    cases dd with
    | cons q r =>
      cases q
      cases r with
      | cons q r =>
        cases q
        cases r
        exact ⟨lo, n, rfl, hb, k _ H1 _ _ rfl src_range trivial s e1⟩⟩
theorem wi_enum {elts : List Expr} {kk : Nat} (hg : Gl X "enumerate") (hm : X.mg "enumerate" = none) (w : WE X B h e ss (fun d => ∃ ds, d = .list ds ∧ P ds)) (hs : starEach [e] X.env = [(false, eval e X.env)] := by rfl) :
    WI X B h (.Tuple elts kk tpos) (.Call (.Name "enumerate" p) [e] [] pos) ss (fun es => ∃ ds, P ds ∧ es = enumD ds) :=
  ⟨_, pi_enum hg hm pa_w hs, fun σ H R en k => wa_one w hs σ H _ en fun vs H1 ds s e1 dd ⟨d, ed, ds', er, pd⟩ => by
    subst ed er
    cases dd with
    | cons q r =>
      cases r
      cases q with
      | lst q r => exact ⟨_, _, rfl, SqL.of (hid_some.mp q).2, k _ H1 _ _ ⟨ds', pd, rfl⟩ src_enum ⟨_, q, r⟩ s e1⟩⟩
theorem di_enum {elts : List Expr} {kk : Nat} {ds : List PyData} (hg : Gl X "enumerate") (hm : X.mg "enumerate" = none) (w : DE X B h e ss (.list ds)) (hs : starEach [e] X.env = [(false, eval e X.env)] := by rfl) :
    DI X B h (.Tuple elts kk tpos) (.Call (.Name "enumerate" p) [e] [] pos) ss (enumD ds) := by
  obtain ⟨wi, p1, p2⟩ := wi_enum (P := fun x => x = ds) (elts := elts) (kk := kk) (p := p) (pos := pos) (tpos := tpos) hg hm (w.imp fun d q => ⟨ds, q, rfl⟩) hs
  exact ⟨wi, p1, fun σ H R en k => p2 σ H R en fun J H1 es ok ⟨ds', q1, q2⟩ => k J H1 es ok (by rw [q2, q1])⟩
end

/-! ### targets -/
/-- g stores a datum d as T says; the slots vs are its own -/
def TgOk (K : PySem.W.Frag) (g : TG) (vs : List Nat) (T : PyData → List Sl → List Sl → Prop) : Prop :=
  ∀ (B : Bs) (h : List Addr) (v : V) (d : PyData) (σ : L2.St) (H : Hp) (ss : List Sl) (Q : L2.St → Hp → Prop), En K B h H σ ss → Da (hid h H) v d → (∃ s, T d ss s) →
    (∀ σ' ss', T d ss ss' → En K B h H σ' ss' → wipe σ' vs = wipe σ vs → Q σ' H) → g v σ H Q
def tName (j : Nat) : PyData → List Sl → List Sl → Prop := fun d ss s => s = ss.set j (.d d)
def tPair (j k : Nat) : PyData → List Sl → List Sl → Prop := fun d ss s => ∃ x y, d = .tuple [x, y] ∧ s = (ss.set j (.d x)).set k (.d y)
theorem tg_name {K : PySem.W.Frag} {j : Nat} : TgOk K (gName j) [j] (tName j) := fun B h v d σ H ss Q en dd _ k =>
  k _ _ rfl (en.set_d dd) (by show ((σ.set j (some v)).set j none) = σ.set j none; rw [List.set_set])
theorem tg_pair {K : PySem.W.Frag} {j k : Nat} (hjk : j ≠ k) : TgOk K (gTup K 2 (gCons (gName j) (gCons (gName k) gNil))) [j, k] (tPair j k) := fun B h v d σ H ss Q en dd ⟨_, x, y, ed, _⟩ q => by
  subst ed
  cases dd with
  | tup e r =>
    cases r with
    | cons r1 r =>
      cases r with
      | cons r2 r =>
        cases r
        refine ⟨_, _, rfl, SqT.of (hid_some.mp e).2, rfl, _, _, rfl, _, _, rfl, rfl, q _ _ ⟨x, y, rfl, rfl⟩ ((en.set_d r1).set_d r2) ?_⟩
        show (((σ.set j _).set k _).set k none).set j none = (σ.set k none).set j none
        rw [List.set_set, List.set_comm _ _ hjk, List.set_set, List.set_comm _ _ hjk.symm]

/-! ### comprehensions -/
def WTs (X : Cx) (B : Bs) (h : List Addr) (ifs : List Expr) (ss : List Sl) (R : Bool → Prop) : Prop :=
  match ifs with
  | [] => R true
  | [c] => WT X B h c ss R
  | _ => False
/-- the tests of a comprehension, read canonically -/
def rTs (X : Cx) (ifs : List Expr) : TT := match ifs with
  | [] => tYes
  | c :: _ => wT X c
theorem pts_r {X : Cx} {ifs : List Expr} (hl : ifs.length ≤ 1) : PTs X ifs (rTs X ifs) := by
  match ifs, hl with
  | [], _ => exact pts_nil
  | [c], _ => exact pts_one pt_w
def wipeS (ss : List Sl) : List Nat → List Sl
  | [] => ss
  | v :: vs => (wipeS ss vs).set v .u
theorem wipeS_len (ss : List Sl) : ∀ vs : List Nat, (wipeS ss vs).length = ss.length
  | [] => rfl
  | v :: vs => by unfold wipeS; rw [List.length_set, wipeS_len ss vs]
theorem En.wipe {K : PySem.W.Frag} {B : Bs} {h : List Addr} {H : Hp} {σ : L2.St} {ss : List Sl} (E : En K B h H σ ss) : ∀ vs : List Nat, En K B h H (L2.wipe σ vs) (wipeS ss vs)
  | [] => E
  | v :: vs => by
    refine (E.wipe vs).weak ?_ fun i x hi => ?_
    · show ((L2.wipe σ vs).set v none).length = ((wipeS ss vs).set v .u).length
      rw [List.length_set, List.length_set]
      exact (E.wipe vs).len
    · change ((wipeS ss vs).set v .u)[i]? = some x at hi
      change x = .u ∨ ((wipeS ss vs)[i]? = some x ∧ ((L2.wipe σ vs).set v none)[i]? = (L2.wipe σ vs)[i]?)
      by_cases hv : v = i
      · subst hv
        by_cases hl : v < (wipeS ss vs).length
        · rw [List.getElem?_set_self hl] at hi
          exact .inl (Option.some.inj hi).symm
        · rw [List.getElem?_eq_none (by rw [List.length_set]; omega)] at hi
          cases hi
      · rw [List.getElem?_set_ne hv] at hi
        exact .inr ⟨hi, by rw [List.getElem?_set_ne hv]⟩
theorem set_none_comm (σ : L2.St) (i j : Nat) : (σ.set i none).set j none = (σ.set j none).set i none := by
  by_cases h : i = j
  · rw [h]
  · exact List.set_comm _ _ h
theorem wipe_set (σ : L2.St) (i : Nat) : ∀ vs : List Nat, L2.wipe (σ.set i none) vs = (L2.wipe σ vs).set i none
  | [] => rfl
  | v :: vs => by
    show (L2.wipe (σ.set i none) vs).set v none = ((L2.wipe σ vs).set v none).set i none
    rw [wipe_set σ i vs, set_none_comm]
theorem wipe_wipe (σ : L2.St) : ∀ vs : List Nat, L2.wipe (L2.wipe σ vs) vs = L2.wipe σ vs
  | [] => rfl
  | v :: vs => by
    show (L2.wipe ((L2.wipe σ vs).set v none) vs).set v none = (L2.wipe σ vs).set v none
    rw [wipe_set, wipe_wipe σ vs, List.set_set]
def nofS (ss : List Sl) (vs : List Nat) : Bool := vs.all fun i => match ss[i]? with
  | some (.f _ _) => false
  | _ => true
theorem nofS_at {ss : List Sl} {vs : List Nat} (e : nofS ss vs = true) {i : Nat} (hi : i ∈ vs) (F G : Addr) : ss[i]? ≠ some (.f F G) := fun z => by
  have := List.all_eq_true.mp e i hi
  rw [z] at this
  cases this
theorem wipeS_ne {ss : List Sl} {i : Nat} : ∀ {vs : List Nat}, i ∉ vs → (wipeS ss vs)[i]? = ss[i]?
  | [], _ => rfl
  | v :: vs, hi => by
    show ((wipeS ss vs).set v .u)[i]? = ss[i]?
    rw [List.getElem?_set_ne fun z => hi (by rw [z]; exact List.mem_cons_self)]
    exact wipeS_ne fun z => hi (List.mem_cons_of_mem _ z)
/-- a target's store leaves the other slots -/
def TgKeep (vs : List Nat) (T : PyData → List Sl → List Sl → Prop) : Prop := ∀ d s s', T d s s' → ∀ i, i ∉ vs → s'[i]? = s[i]?
theorem tk_name {j : Nat} : TgKeep [j] (tName j) := fun d s s' t i hi => by
  rw [show s' = s.set j (.d d) from t, List.getElem?_set_ne fun z => hi (by rw [z]; exact List.mem_cons_self)]
theorem tk_pair {j k : Nat} : TgKeep [j, k] (tPair j k) := fun d s s' ⟨x, y, _, t⟩ i hi => by
  rw [t, List.getElem?_set_ne fun z => hi (by rw [z]; simp), List.getElem?_set_ne fun z => hi (by rw [z]; simp)]

section
variable {X : Cx} {B : Bs} {h : List Addr} {ss : List Sl} {elt tg iter : Expr} {ifs : List Expr} {scope : Scope} {own : List (Str × Nat)} {pos : Pos} {P : List PyData → Prop}
/-- the block's context -/
abbrev Blk (X : Cx) (scope : Scope) (s : Shared) (H : Hp) (C : Addr) (cl : List (Str × Addr)) (fp : List Addr) : Cx := X.blk s H scope (compEnvC scope cl C X.env) fp
/-- the tests' and the element's readings, in every block -/
def bT (X : Cx) (scope : Scope) (ifs : List Expr) : TT := fun σ H Q => ∀ (s : Shared) (H0 : Hp) (C : Addr) (cl : List (Str × Addr)) (fp : List Addr), rTs (Blk X scope s H0 C cl fp) ifs σ H Q
def bE (X : Cx) (scope : Scope) (elt : Expr) : TE := fun σ H Q => ∀ (s : Shared) (H0 : Hp) (C : Addr) (cl : List (Str × Addr)) (fp : List Addr), wE (Blk X scope s H0 C cl fp) elt σ H Q
theorem bT_ok (hl : ifs.length ≤ 1) (s : Shared) (H : Hp) (C : Addr) (cl : List (Str × Addr)) (fp : List Addr) : PTs (Blk X scope s H C cl fp) ifs (bT X scope ifs) := by
  refine ⟨fun pins s' σ H' Q I q => (pts_r hl).run pins s' σ H' Q I (q s H C cl fp)⟩
theorem bE_ok (s : Shared) (H : Hp) (C : Addr) (cl : List (Str × Addr)) (fp : List Addr) : PE (Blk X scope s H C cl fp) elt (bE X scope elt) :=
  ⟨fun pins s' σ H' Q I q => q s H C cl fp pins s' I⟩
/-- one turn's tests and element: I' what is wanted of the list so far behind the turn -/
structure Lct (X : Cx) (B : Bs) (h : List Addr) (scope : Scope) (ifs : List Expr) (elt : Expr) (ss' : List Sl) (acc : List PyData) (I' : List PyData → Prop) : Prop where
  tst : ∃ T : Bool → Prop, (∀ (D : Addr) (s : Shared) (H : Hp) (C : Addr) (cl : List (Str × Addr)) (fp : List Addr), WTs (Blk X scope s H C cl fp) B (D :: h) ifs ss' T) ∧ (T false → I' acc) ∧
    (T true → ∀ (D : Addr) (s : Shared) (H : Hp) (C : Addr) (cl : List (Str × Addr)) (fp : List Addr), WE (Blk X scope s H C cl fp) B (D :: h) elt ss' fun y => I' (acc ++ [y]))
theorem lc_read {g : TG} {T : PyData → List Sl → List Sl → Prop} {wi : TI} (I : List PyData → Nat → List PyData → Prop)
    (wi_ok : ∀ (σ : L2.St) (H : Hp) (R : It → Hp → Prop), En X.K B h H σ ss → (∀ J H1 ds ok, P ds → Src X.K J ds ok → ok h H1 → Kp B H H1 → En X.K B h H1 σ ss → R J H1) → wi σ H R)
    (tg_ok : TgOk X.K g (own.map (·.2)) T) (tk : TgKeep (own.map (·.2)) T) (nf : nofS ss (own.map (·.2)) = true) (hz : ∀ ds, P ds → ds.length ≤ 1000) (i0 : ∀ ds, P ds → I ds 0 [])
    (turn : ∀ ds i d acc, P ds → ds[i]? = some d → I ds i acc → (∃ s, T d (wipeS ss (own.map (·.2))) s) ∧ ∀ ss', T d (wipeS ss (own.map (·.2))) ss' → Lct X B h scope ifs elt ss' acc (I ds (i + 1)))
    {σ : L2.St} {H : Hp} {Q : VK} (en : En X.K B h H σ ss)
    (k : ∀ D H2 ds xs acc, P ds → I ds ds.length acc → acc.length ≤ ds.length → H D = none → B.H0 D = none → D ∉ h → H2 D = some (.lst xs) → DaL (hid (D :: h) H2) xs acc → Kp B H H2 → En X.K B h H2 σ ss → Q (.ref D) H2) :
    tLc wi g (bT X scope ifs) (bE X scope elt) (own.map (·.2)) σ H Q := by
  refine wi_ok σ H _ en fun J H1 ds ok pd src ok1 s1 en1 D hD => ?_
  have D0 : B.H0 D = none := en1.fresh0 hD
  have Dh : D ∉ h := fun z => (en1.dom D z).ne hD
  have Dmd : D ∉ B.md := fun z => Dh (en1.mdh D z)
  have HD : H D = none := s1.fresh hD Dmd
  -- what holds ahead of each turn
  let W : Nat → Nat → Hp → Prop := fun i m H' => m = ds.length - i ∧ i ≤ ds.length ∧ ok (D :: h) H' ∧ En X.K B (D :: h) H' σ ss ∧ Kp B H H' ∧ ∃ xs acc, H' D = some (.lst xs) ∧ DaL (hid (D :: h) H') xs acc ∧ acc.length ≤ i ∧ I ds i acc
  refine ⟨W, ⟨ds.length, rfl, Nat.zero_le _, src.hd _ _ _ _ ok1 hD, en1.hide hD, s1.trans (Kp.of (Same.new hD)), [], [], upd_same, .nil, Nat.le_refl _, i0 ds pd⟩, ?_⟩
  rintro i m H' ⟨rfl, hi, okH, enH, sH, xs, acc, hx, dx, la, ia⟩
  by_cases hlt : i < ds.length
  · refine .inr ⟨src.go _ i H' okH hlt, fun H2 => W (i + 1) (ds.length - (i + 1)) H2, fun H2 w => ⟨_, by omega, w⟩, fun v H2 hy => ?_⟩
    have hd : ds[i]? = some ds[i] := List.getElem?_eq_getElem hlt
    obtain ⟨sy, dy⟩ := src.yld _ i H' v H2 _ enH.dom okH hd hy
    obtain ⟨tex, tl⟩ := turn ds i _ acc pd hd ia
    refine tg_ok B (D :: h) v _ _ H2 _ _ ((enH.same sy).wipe (own.map (·.2))) dy tex fun σ2 ss2 t2 en2 w2 => ?_
    refine ⟨by rw [w2]; exact (wipe_wipe σ _), ?_⟩
    obtain ⟨Tt, tt1, tt2, tt3⟩ := (tl ss2 t2).tst
    have lz : acc.length < sizeLine := Nat.lt_of_le_of_lt la (Nat.lt_of_lt_of_le (Nat.lt_of_lt_of_le hlt (hz ds pd)) (by decide))
    -- the outer slots behind the turn
    have back : ∀ (H3 : Hp), Kp B H2 H3 → En X.K B (D :: h) H3 σ2 ss2 → En X.K B (D :: h) H3 σ ss := fun H3 k3 e3 =>
      (enH.same sy).along k3 e3 (fun x hx => hx) fun j F G hj => by
        have hjv : j ∉ own.map (·.2) := fun z => nofS_at nf z F G hj
        have e : ss2[j]? = some (.f F G) := by rw [tk _ _ _ t2 j hjv, wipeS_ne hjv]; exact hj
        exact (e3.at_f e).2.2.2
    -- behind the tests
    have fin : ∀ (b : Bool) (H3 : Hp), Kp B H2 H3 → En X.K B (D :: h) H3 σ2 ss2 → Tt b →
        (if b = true then bE X scope elt σ2 H3 fun y H4 => ∃ acc, H4 D = some (.lst acc) ∧ acc.length < sizeLine ∧ W (i + 1) (ds.length - (i + 1)) (upd H4 D (.lst (acc ++ [y]))) else W (i + 1) (ds.length - (i + 1)) H3) := by
      intro b H3 k3 e3 tb
      have hx3 : H3 D = some (.lst xs) := k3.get Dmd (sy _ _ hx)
      have dx3 : DaL (hid (D :: h) H3) xs acc := dx.mono ((hid_same sy).trans ((enH.same sy).up k3))
      have ok3 : ok (D :: h) H3 := src.st _ _ _ okH ((hid_same sy).trans ((enH.same sy).up k3))
      cases b with
      | false => exact iteF ⟨rfl, hlt, ok3, back H3 k3 e3, (sH.trans (Kp.of sy)).trans k3, xs, acc, hx3, dx3, Nat.le_succ_of_le la, tt2 tb⟩
      | true =>
        refine iteT fun s0 H0 C cl fp => ?_
        refine tt3 tb D s0 H0 C cl fp σ2 H3 _ e3 fun v4 H4 y k4 e4 d4 r4 => ?_
        have hx4 : H4 D = some (.lst xs) := k4.get Dmd hx3
        have k24 : Kp B H2 H4 := k3.trans k4
        have e5 := back H4 k24 e4
        have up5 : Same (hid (D :: h) H4) (hid (D :: h) (upd H4 D (.lst (xs ++ [v4])))) := fun b o q => by
          obtain ⟨q1, q2⟩ := hid_some.mp q
          exact hid_some.mpr ⟨q1, by rw [upd_ne fun z => q1 (by rw [z]; exact List.mem_cons_self)]; exact q2⟩
        have kp5 : Kp B H (upd H4 D (.lst (xs ++ [v4]))) := fun b o q => by
          have hb : b ≠ D := fun z => by
            have := (hid_some.mp q).2
            rw [z, HD] at this
            cases this
          obtain ⟨q1, q2⟩ := hid_some.mp ((((sH.trans (Kp.of sy)).trans k24)) b o q)
          exact hid_some.mpr ⟨q1, by rw [upd_ne hb]; exact q2⟩
        refine ⟨xs, hx4, by rw [dx.length]; exact lz, rfl, hlt, src.st _ _ _ (src.st _ _ _ ok3 (e3.up k4)) up5, e5.hupd List.mem_cons_self Dmd D0, kp5, xs ++ [v4], acc ++ [y], upd_same, ((dx3.mono (e3.up k4)).append (.cons d4 .nil)).mono up5, by rw [List.length_append]; exact Nat.add_le_add_right la 1, r4⟩
    intro s0 H0 C cl fp
    match ifs, tt1 with
    | [], t1 => exact fin true H2 (Kp.refl _) en2 (t1 D s0 H0 C cl fp)
    | [c], t1 => exact t1 D s0 H0 C cl fp σ2 H2 _ en2 fun b H3 k3 e3 r3 => fin b H3 k3 e3 r3
    | _ :: _ :: _, t1 => exact (t1 D s0 H0 C cl fp).elim
  · have e : i = ds.length := by omega
    subst e
    exact .inl ⟨src.stop _ H' okH, k D H' ds xs acc pd ia la HD D0 Dh hx dx sH (enH.unhide en.mdh)⟩

/-! as a value -/
theorem we_lc {g : TG} {T : PyData → List Sl → List Sl → Prop} (I : List PyData → Nat → List PyData → Prop) (hc : X.calm = true) (hN : X.N.Nodup) (hi : WI X B h tg iter ss P) (ok : BlkOk X.N X.env.scope scope own)
    (hg : ∀ (s : Shared) (H : Hp) (C : Addr) (cl : List (Str × Addr)) (fp : List Addr), PG (Blk X scope s H C cl fp) tg g) (hl : ifs.length ≤ 1)
    (tg_ok : TgOk X.K g (own.map (·.2)) T) (tk : TgKeep (own.map (·.2)) T) (nf : nofS ss (own.map (·.2)) = true) (hz : ∀ ds, P ds → ds.length ≤ 1000) (i0 : ∀ ds, P ds → I ds 0 [])
    (turn : ∀ ds i d acc, P ds → ds[i]? = some d → I ds i acc → (∃ s, T d (wipeS ss (own.map (·.2))) s) ∧ ∀ ss', T d (wipeS ss (own.map (·.2))) ss' → Lct X B h scope ifs elt ss' acc (I ds (i + 1)))
    (hs : ∀ x, foldedSetIterable iter X.env x = pure x := by intro _; rfl) :
    WE X B h (.ListComp elt [⟨tg, iter, ifs, 0⟩] scope pos) ss (fun d => ∃ ds acc, P ds ∧ d = .list acc ∧ acc.length ≤ ds.length ∧ I ds ds.length acc) := by
  obtain ⟨wi, p1, p2⟩ := hi
  exact fun σ H Q en k => wE_of (pe_lc hc hN p1 ok hg (bT_ok hl) bE_ok hs) (lc_read I p2 tg_ok tk nf hz i0 turn en fun D H2 ds xs acc pd ia la HD D0 Dh hx dx kp e2 =>
    k _ H2 (.list acc) kp e2 (.lst (hid_some.mpr ⟨Dh, hx⟩) (dx.mono (hid_anti fun x hx => List.mem_cons_of_mem _ hx))) ⟨ds, acc, pd, rfl, la, ia⟩)
end
end F26

/-! statements -/
namespace F26
open PySem PySem.Spec L2

def Own (ss : List Sl) (p : Addr) : Prop := ∃ (i : Nat) (ds : List PyData), ss[i]? = some (Sl.l p ds)
/-- what a statement that leads from slots ss to ss' has kept, and what it owns anew -/
structure Ke (B : Bs) (ss ss' : List Sl) (H H' : Hp) : Prop where
  kp : ∀ b o, H b = some o → b ∉ B.md → ¬ Own ss b → H' b = some o
  ow : ∀ p, Own ss' p → Own ss p ∨ H p = none
section
variable {K : PySem.W.Frag} {B : Bs} {h : List Addr} {H H1 H2 : Hp} {σ : L2.St} {ss ss1 ss2 : List Sl}
theorem Ke.of (k : Kp B H H1) (o : ∀ p, Own ss1 p → Own ss p) : Ke B ss ss1 H H1 := ⟨fun b ob e n _ => k.get n e, fun p q => .inl (o p q)⟩
theorem En.own_md (E : En K B h H σ ss) {p : Addr} (q : Own ss p) : p ∉ B.md := fun z => by
  obtain ⟨i, ds, e⟩ := q
  exact (E.at_l e).2.1 (E.mdh p z)
theorem Ke.trans (a : Ke B ss ss1 H H1) (b : Ke B ss1 ss2 H1 H2) (E : En K B h H2 σ ss2) : Ke B ss ss2 H H2 where
  kp := fun c o e n no => b.kp c o (a.kp c o e n no) n fun z => (a.ow c z).elim no fun q => by rw [q] at e; cases e
  ow := fun p q => by
    by_cases z : Own ss p
    · exact .inl z
    · refine .inr ?_
      rcases b.ow p q with y | y
      · exact (a.ow p y).resolve_left z
      · cases e : H p with
        | none => rfl
        | some o => rw [a.kp p o e (E.own_md q) z] at y; cases y
theorem own_set {i : Nat} {x : Sl} (n : ∀ p ds, x ≠ .l p ds) : ∀ p, Own (ss.set i x) p → Own ss p := fun p ⟨j, ds, e⟩ => by
  by_cases hij : i = j
  · subst hij
    by_cases hi : i < ss.length
    · rw [List.getElem?_set_self hi] at e
      exact absurd (Option.some.inj e) (n p ds)
    · rw [List.getElem?_eq_none (by rw [List.length_set]; omega)] at e
      cases e
  · rw [List.getElem?_set_ne hij] at e
    exact ⟨j, ds, e⟩
end

theorem nlAll_append : ∀ {xs ys : List PyData}, nlAll xs = true → nlAll ys = true → nlAll (xs ++ ys) = true
  | [], _, _, h => h
  | x :: xs, ys, h1, h2 => by
    simp only [nlAll, Bool.and_eq_true] at h1
    show (nl x && nlAll (xs ++ ys)) = true
    rw [h1.1, nlAll_append h1.2 h2]
    rfl
def WS (X : Cx) (B : Bs) (h : List Addr) (st : Stmt) (ss : List Sl) (N : List Sl → Prop) (R : List Sl → PyData → Prop) : Prop :=
  ∀ (σ : L2.St) (H : Hp) (D : Ends), En X.K B h H σ ss → (∀ σ' H' ss', Ke B ss ss' H H' → En X.K B h H' σ' ss' → N ss' → D.nx σ' H') →
    (∀ v σ' H' ss' d, Ke B ss ss' H H' → En X.K B h H' σ' ss' → Da (hid h H') v d → R ss' d → D.rt v H') → wS X st D σ H
def WSs (X : Cx) (B : Bs) (h : List Addr) (sts : List Stmt) (ss : List Sl) (N : List Sl → Prop) (R : List Sl → PyData → Prop) : Prop :=
  ∀ (σ : L2.St) (H : Hp) (D : Ends), En X.K B h H σ ss → (∀ σ' H' ss', Ke B ss ss' H H' → En X.K B h H' σ' ss' → N ss' → D.nx σ' H') →
    (∀ v σ' H' ss' d, Ke B ss ss' H H' → En X.K B h H' σ' ss' → Da (hid h H') v d → R ss' d → D.rt v H') → wSs X sts D σ H
/-- a new list, leaned on by nothing -/
def WF (X : Cx) (B : Bs) (h : List Addr) (e : Expr) (ss : List Sl) (R : List PyData → Prop) : Prop :=
  ∀ (σ : L2.St) (H : Hp) (Q : VK), En X.K B h H σ ss → (∀ p H2 xs ds, Kp B H H2 → En X.K B h H2 σ ss → H p = none → B.H0 p = none → p ∉ h → H2 p = some (.lst xs) → DaL (hid h H2) xs ds → R ds → Q (.ref p) H2) → wE X e σ H Q

section
variable {X : Cx} {B : Bs} {h : List Addr} {ss : List Sl} {e a b c o iter tg : Expr} {es : List Expr} {st : Stmt} {rest body body2 : List Stmt} {pos pos' apos cpos p : Pos} {N N' : List Sl → Prop} {R : List Sl → PyData → Prop} {Re : PyData → Prop} {n : Str} {i : Nat} {x : PyData}
theorem WS.imp (w : WS X B h st ss N R) {N' : List Sl → Prop} {R' : List Sl → PyData → Prop} (n : ∀ s, N s → N' s) (r : ∀ s d, R s d → R' s d) : WS X B h st ss N' R' := fun σ H D en k1 k2 =>
  w σ H D en (fun σ' H' s' ke e q => k1 σ' H' s' ke e (n s' q)) fun v σ' H' s' d ke e dd q => k2 v σ' H' s' d ke e dd (r s' d q)
theorem WSs.imp (w : WSs X B h body ss N R) {N' : List Sl → Prop} {R' : List Sl → PyData → Prop} (n : ∀ s, N s → N' s) (r : ∀ s d, R s d → R' s d) : WSs X B h body ss N' R' := fun σ H D en k1 k2 =>
  w σ H D en (fun σ' H' s' ke e q => k1 σ' H' s' ke e (n s' q)) fun v σ' H' s' d ke e dd q => k2 v σ' H' s' d ke e dd (r s' d q)
theorem wss_nil (q : N ss) : WSs X B h [] ss N R := fun σ H D en k1 _ => wSs_of pss_nil (k1 σ H ss (.of (Kp.refl H) fun _ z => z) en q)
theorem wss_cons {N1 : List Sl → Prop} (w : WS X B h st ss N1 R) (k : ∀ s, N1 s → WSs X B h rest s N R) : WSs X B h (st :: rest) ss N R := fun σ H D en k1 k2 =>
  wSs_of (pss_cons ps_w pss_w) (w σ H _ en (fun σ1 H1 s1 ke1 e1 q1 => k s1 q1 σ1 H1 D e1 (fun σ2 H2 s2 ke2 e2 q2 => k1 σ2 H2 s2 (ke1.trans ke2 e2) e2 q2) fun v σ2 H2 s2 d ke2 e2 dd q2 => k2 v σ2 H2 s2 d (ke1.trans ke2 e2) e2 dd q2)
    fun v σ1 H1 s1 d ke1 e1 dd q1 => k2 v σ1 H1 s1 d ke1 e1 dd q1)
theorem wss_one (w : WS X B h st ss N R) : WSs X B h [st] ss N R := fun σ H D en k1 k2 => wSs_of (pss_one ps_w) (w σ H D en k1 k2)
theorem ws_never (f : False) : WS X B h st ss N R := f.elim

/-! ### stores -/
theorem ws_set (i : Nat) (w : WE X B h e ss Re) (k : ∀ d, Re d → N (ss.set i (.d d))) (nd : X.N.Nodup) (hi : X.N[i]? = some n := by rfl) (hx : Loc X.env.scope n := by first | exact Or.inl rfl | exact Or.inr rfl)
    (hs : swapsWith e (some (.Name n pos')) pos.line X.env = pure false := by rfl) (hf : X.fn n = true ∨ X.env.scope.names.lookup n = some .local := by first | exact .inl rfl | exact .inr rfl | assumption) :
    WS X B h (.Assign [.Name n pos'] e pos) ss N R := fun σ H D en k1 _ =>
  wS_of (ps_set nd hi hx pe_w hs hf) (w σ H _ en fun v H1 d kp e1 dd r => k1 _ H1 _ (.of kp (own_set fun _ _ => by nofun)) (e1.set_d dd) (k d r))
theorem own_l {p : Addr} {ds : List PyData} : ∀ q, Own (ss.set i (.l p ds)) q → Own ss q ∨ q = p := fun q ⟨j, es, e⟩ => by
  by_cases hij : i = j
  · subst hij
    by_cases hi : i < ss.length
    · rw [List.getElem?_set_self hi] at e
      cases e
      exact .inr rfl
    · rw [List.getElem?_eq_none (by rw [List.length_set]; omega)] at e
      cases e
  · rw [List.getElem?_set_ne hij] at e
    exact .inl ⟨j, es, e⟩
theorem En.set_l {K : PySem.W.Frag} {H H2 : Hp} {σ : L2.St} (E0 : En K B h H σ ss) (E : En K B h H2 σ ss) {p : Addr} {xs : List V} {ds : List PyData} (n : H p = none) (b0 : B.H0 p = none) (ph : p ∉ h) (e : H2 p = some (.lst xs)) (d : DaL (hid h H2) xs ds) (nl : nlAll ds = true) :
    En K B h H2 (σ.set i (some (.ref p))) (ss.set i (.l p ds)) :=
  E.set (.inr ⟨rfl, ph, b0, nl, xs, e, d⟩) fun q es z j fs hj => by
    cases z
    obtain ⟨_, _, _, _, ys, hy, _⟩ := E0.at_l hj
    rw [n] at hy
    cases hy
theorem ws_setF (i : Nat) {Rf : List PyData → Prop} (w : WF X B h e ss Rf) (nl : ∀ ds, Rf ds → nlAll ds = true) (k : ∀ p ds, Rf ds → N (ss.set i (.l p ds))) (nd : X.N.Nodup) (hi : X.N[i]? = some n := by rfl) (hx : Loc X.env.scope n := by first | exact Or.inl rfl | exact Or.inr rfl)
    (hs : swapsWith e (some (.Name n pos')) pos.line X.env = pure false := by rfl) (hf : X.fn n = true ∨ X.env.scope.names.lookup n = some .local := by first | exact .inl rfl | exact .inr rfl | assumption) :
    WS X B h (.Assign [.Name n pos'] e pos) ss N R := fun σ H D en k1 _ =>
  wS_of (ps_set nd hi hx pe_w hs hf) (w σ H _ en fun p H2 xs ds kp e2 np b0 ph hp dd r => k1 _ H2 _ ⟨fun b o e n _ => kp.get n e, fun q hq => (own_l q hq).imp id fun z => by rw [z]; exact np⟩ (en.set_l e2 np b0 ph hp dd (nl ds r)) (k p ds r))
theorem wf_nil : WF X B h (.List [] pos) ss (fun ds => ds = []) := fun σ H Q en k =>
  wE_of (pe_lst pa_nil) ⟨Nat.zero_le _, fun p hp => k p _ [] [] (Kp.of (Same.new hp)) (en.same (Same.new hp)) hp (en.fresh0 hp) (fun z => (en.dom p z).ne hp) upd_same .nil rfl⟩
theorem wf_list {P : List PyData → Prop} (hg : Gl X "list") (hm : X.mg "list" = none) (w : WE X B h e ss (fun d => ∃ ds, isSq ds d ∧ P ds)) (he : starEach (e :: []) X.env = (false, eval e X.env) :: starEach [] X.env := by rfl) :
    WF X B h (.Call (.Name "list" p) [e] [] pos) ss P := fun σ H Q en k =>
  wE_of (pe_callTy call_list_of hg hm (by decide +kernel) pa_w (he := he)) (wa_one w he σ H _ en fun vs H1 ds kp e1 dd ⟨d, ed, es, sq, ps⟩ => by
    subst ed
    cases dd with
    | cons q r =>
      cases r
      rcases sq with sq | sq
      · subst sq
        cases q with
        | lst q r => exact ⟨_, _, rfl, .inl (SqL.of (hid_some.mp q).2), fun p hp => k p _ _ es (kp.trans (Kp.of (Same.new hp))) (e1.same (Same.new hp)) (kp.fresh hp fun z => (e1.dom p (e1.mdh p z)).ne hp) (e1.fresh0 hp) (fun z => (e1.dom p z).ne hp) upd_same (r.mono (hid_same (Same.new hp))) ps⟩
      · subst sq
        cases q with
        | tup q r => exact ⟨_, _, rfl, .inr (SqT.of (hid_some.mp q).2), fun p hp => k p _ _ es (kp.trans (Kp.of (Same.new hp))) (e1.same (Same.new hp)) (kp.fresh hp fun z => (e1.dom p (e1.mdh p z)).ne hp) (e1.fresh0 hp) (fun z => (e1.dom p z).ne hp) upd_same (r.mono (hid_same (Same.new hp))) ps⟩)
/-- a slot's knowledge forgotten: an own list becomes a datum -/
theorem En.loose {K : PySem.W.Frag} {H : Hp} {σ : L2.St} (E : En K B h H σ ss) {i : Nat} {p : Addr} {ds : List PyData} (hi : ss[i]? = some (.l p ds)) : En K B h H σ (ss.set i (.d (.list ds))) := by
  obtain ⟨h1, h2, h3, h4, xs, h5, h6⟩ := E.at_l hi
  have e := E.set (i := i) (v := .ref p) (x := .d (.list ds)) (.inr (.lst (hid_some.mpr ⟨h2, h5⟩) h6)) fun _ _ z => by cases z
  have es : σ.set i (some (.ref p)) = σ := by
    apply List.ext_getElem?
    intro j
    by_cases hij : i = j
    · subst hij
      rw [List.getElem?_set_self (List.getElem?_eq_some_iff.mp h1).1, h1]
    · rw [List.getElem?_set_ne hij]
  rw [es] at e
  exact e
theorem wss_loose (i : Nat) {p : Addr} {ds : List PyData} (hi : ss[i]? = some (.l p ds)) (w : WSs X B h rest (ss.set i (.d (.list ds))) N R) : WSs X B h rest ss N R := fun σ H D en k1 k2 =>
  have ke : Ke B ss (ss.set i (.d (.list ds))) H H := .of (Kp.refl H) (own_set fun _ _ => by nofun)
  w σ H D (en.loose hi) (fun σ' H' s' k e q => k1 σ' H' s' (ke.trans k e) e q) fun v σ' H' s' d k e dd q => k2 v σ' H' s' d (ke.trans k e) e dd q
/-- slots forgotten -/
theorem wss_weak {ss' : List Sl} (l : ss'.length = ss.length) (w0 : ∀ (i : Nat) (x : Sl), ss'[i]? = some x → x = .u ∨ ss[i]? = some x) (w : WSs X B h rest ss' N R) : WSs X B h rest ss N R := fun σ H D en k1 k2 =>
  have ke : Ke B ss ss' H H := .of (Kp.refl H) fun p ⟨i, ds, e⟩ => (w0 i _ e).elim (fun z => by cases z) fun z => ⟨i, ds, z⟩
  w σ H D (en.weak (by rw [l]; exact en.len) fun i x hi => (w0 i x hi).imp id fun z => ⟨z, rfl⟩) (fun σ' H' s' k e q => k1 σ' H' s' (ke.trans k e) e q) fun v σ' H' s' d k e dd q => k2 v σ' H' s' d (ke.trans k e) e dd q

/-! ### an own list changes -/
def nlS (ss : List Sl) (i : Nat) : Prop := ∀ j x, ss[j]? = some (.d x) → j ≠ i → nl x = true
theorem En.wr {K : PySem.W.Frag} {H : Hp} {σ : L2.St} (E : En K B h H σ ss) {i : Nat} {p : Addr} {ds : List PyData} (hi : ss[i]? = some (.l p ds)) (ns : nlS ss i) {ys : List V} {es : List PyData} (de : DaL (hid h H) ys es) (ne : nlAll es = true) :
    En K B h (upd H p (.lst ys)) σ (ss.set i (.l p es)) := by
  obtain ⟨h1, h2, h3, h4, xs, h5, h6⟩ := E.at_l hi
  have off : ∀ b o, b ≠ p → H b = some o → upd H p (.lst ys) b = some o := fun b o hb e => by rw [upd_ne hb]; exact e
  have offh : ∀ b o, b ≠ p → hid h H b = some o → hid h (upd H p (.lst ys)) b = some o := fun b o hb e => hid_some.mpr ⟨(hid_some.mp e).1, off b o hb (hid_some.mp e).2⟩
  have hp : hid h H p = some (.lst xs) := hid_some.mpr ⟨h2, h5⟩
  have hil : i < ss.length := (List.getElem?_eq_some_iff.mp hi).1
  have pmd : p ∉ B.md := fun z => h2 (E.mdh p z)
  refine ⟨fun b o q => ?_, fun x hx => ?_, E.mdh, by rw [List.length_set]; exact E.len, fun j x hj => ?_, fun j k q fs gs hj hk => ?_⟩
  · have hb : b ≠ p := fun z => by
      have := (hid_some.mp q).2
      rw [z, h3] at this
      cases this
    obtain ⟨q1, q2⟩ := hid_some.mp (E.rel b o q)
    exact hid_some.mpr ⟨q1, off b o hb q2⟩
  · exact (E.dom x hx).imp fun zs e => off _ _ (fun z => h2 (by rw [← z]; exact hx)) e
  · by_cases hij : i = j
    · subst hij
      rw [List.getElem?_set_self hil] at hj
      cases hj
      exact .inr ⟨_, h1, rfl, h2, h3, ne, ys, upd_same, DaL.off hp offh de ne⟩
    · rw [List.getElem?_set_ne hij] at hj
      rcases E.sl j x hj with z | ⟨v, a, s⟩
      · exact .inl z
      · refine .inr ⟨v, a, ?_⟩
        cases x with
        | u => trivial
        | d x => exact Da.off hp offh s (ns j x hj fun z => hij z.symm)
        | l q fs =>
          obtain ⟨a1, a2, a3, a4, zs, a5, a6⟩ := s
          have hq : q ≠ p := fun z => hij (E.nd i j p ds fs hi (by rw [← z]; exact hj))
          exact ⟨a1, a2, a3, a4, zs, off _ _ hq a5, DaL.off hp offh a6 a4⟩
        | f F G =>
          obtain ⟨a1, a2, a3, a4, gs, st, ct, e1, e2, e3⟩ := s
          exact ⟨a1, a2, a3, a4, gs, st, ct, off _ _ (fun z => pmd (by rw [← z]; exact a2)) e1, off _ _ (fun z => pmd (by rw [← z]; exact a3)) e2, e3⟩
        | q a ns => exact s
  · have back : ∀ (j : Nat) (q : Addr) (fs : List PyData), (ss.set i (.l p es))[j]? = some (.l q fs) → ∃ gs, ss[j]? = some (.l q gs) := fun j q fs hj => by
      by_cases hij : i = j
      · subst hij
        rw [List.getElem?_set_self hil] at hj
        cases hj
        exact ⟨_, hi⟩
      · rw [List.getElem?_set_ne hij] at hj
        exact ⟨_, hj⟩
    obtain ⟨_, j'⟩ := back j q fs hj
    obtain ⟨_, k'⟩ := back k q gs hk
    exact E.nd j k q _ _ j' k'
theorem Ke.wr {H : Hp} {i : Nat} {p : Addr} {ds es : List PyData} {u : HO} (hi : ss[i]? = some (.l p ds)) : Ke B ss (ss.set i (.l p es)) H (upd H p u) :=
  ⟨fun b o e _ no => by rw [upd_ne fun z => no (by rw [z]; exact ⟨i, ds, hi⟩)]; exact e, fun q hq => .inl ((own_l q hq).elim id fun z => by rw [z]; exact ⟨i, ds, hi⟩)⟩
/-- xs.append(e) -/
theorem ws_append (i : Nat) {q : Addr} {ds : List PyData} {m : Str} (hi : ss[i]? = some (.l q ds)) (ns : nlS ss i) (w : WE X B h e ss Re) (nl' : ∀ d, Re d → nl d = true) (hz : ds.length ≤ 1000) (k : ∀ d, Re d → N (ss.set i (.l q (ds ++ [d]))))
    (hN : X.N[i]? = some m := by rfl) (hv : Vis X.env.scope m := by first | exact Or.inl rfl | exact Or.inr (Or.inl rfl) | exact Or.inr (Or.inr rfl)) (hd : (m == ("__debug__" : Str)) = false := by decide) (hcd : (m == ("__classdict__" : Str)) = false := by decide)
    (hbase : attributeBase (.Name m p) "append" X.env (eval (.Name m p) X.env) = eval (.Name m p) X.env := by rfl)
    (hfew : ((backTo cpos (starEach (e :: []) X.env)).all (fun x => !x.1) && (backToKw cpos (keywordEach [] X.env)).all (fun x => x.1.isSome)
      && decide ((e :: []).length + ([] : List Keyword).length + (if ([] : List Keyword).isEmpty then 0 else 1) < 30)) = true := by rfl)
    (hline : (apos.endLine == cpos.line) = true := by rfl) (he : starEach (e :: []) X.env = (false, eval e X.env) :: starEach [] X.env := by rfl) (hplain : (backTo cpos (starEach [] X.env)).any (·.1) = false := by rfl)
    (hsw : swapsWith (.Call (.Attribute (.Name m p) "append" apos) [e] [] cpos) none pos.line X.env = pure false := by rfl) :
    WS X B h (.Expr (.Call (.Attribute (.Name m p) "append" apos) [e] [] cpos) pos) ss N R := fun σ H D en k1 _ => by
  refine wS_of (ps_expr (pe_bm PySem.F.plainAttrs_list PySem.F.slot_list_append PySem.F.type_list_append mt_append (pe_var hN hv hd hcd) pa_w hbase hfew hline he hplain) hsw) ?_
  obtain ⟨h1, h2, h3, h4, xs, h5, h6⟩ := en.at_l hi
  refine ⟨_, h1, .inl ⟨rfl, _, SqL.of h5⟩, wa_one w he σ H _ en fun vs H1 ds' kp e1 dd ⟨d, ed, r⟩ => ?_⟩
  subst ed
  cases dd with
  | cons dv rr =>
    cases rr
    obtain ⟨g1, g2, g3, g4, ys, g5, g6⟩ := e1.at_l hi
    refine ⟨q, ys, _, rfl, rfl, g5, Nat.lt_of_le_of_lt (by rw [g6.length]; exact hz) (by decide), ?_⟩
    have ne : nlAll (ds ++ [d]) = true := nlAll_append g4 (by simp [nlAll, nl' d r])
    refine k1 _ _ _ ((Ke.of kp fun _ z => z).trans (Ke.wr hi) (e1.wr hi ns (g6.append (.cons dv .nil)) ne)) (e1.wr hi ns (g6.append (.cons dv .nil)) ne) (k d r)
end
end F26

/-! more statements; defs and their promises -/
namespace F26
open PySem PySem.Spec L2

section
variable {X : Cx} {B : Bs} {h : List Addr} {ss : List Sl} {e a b c o iter tg elt : Expr} {es : List Expr} {st : Stmt} {rest body body2 : List Stmt} {pos pos' apos cpos p spos : Pos} {N N' : List Sl → Prop} {R : List Sl → PyData → Prop} {Re : PyData → Prop} {n : Str} {i : Nat} {x : PyData}
  {P : List PyData → Prop} {ifs : List Expr} {scope : Scope} {own : List (Str × Nat)}
theorem ws_ret (w : WE X B h e ss Re) (k : ∀ d, Re d → R ss d) : WS X B h (.Return (some e) pos) ss N R := fun σ H D en _ k2 =>
  wS_of (ps_ret pe_w) (w σ H _ en fun v H1 d kp e1 dd r => k2 v σ H1 ss d (.of kp fun _ z => z) e1 dd (k d r))
theorem Ke.pre {H H1 H2 : Hp} {σ : L2.St} {ss2 : List Sl} (kp : Kp B H H1) (k : Ke B ss ss2 H1 H2) (E : En X.K B h H2 σ ss2) : Ke B ss ss2 H H2 :=
  (Ke.of kp fun _ z => z).trans k E
theorem ws_if {S : Bool → Prop} (w : WT X B h c ss S) (w1 : S true → WSs X B h body ss N R) (w2 : S false → WSs X B h body2 ss N R) : WS X B h (.If c body body2 pos) ss N R := fun σ H D en k1 k2 =>
  wS_of (ps_if pt_w pss_w pss_w) (w σ H _ en fun q H1 kp e1 r => by
    cases q with
    | true => exact iteT (w1 r σ H1 D e1 (fun σ' H' s' k e q => k1 σ' H' s' (k.pre kp e) e q) fun v σ' H' s' d k e dd q => k2 v σ' H' s' d (k.pre kp e) e dd q)
    | false => exact iteF (w2 r σ H1 D e1 (fun σ' H' s' k e q => k1 σ' H' s' (k.pre kp e) e q) fun v σ' H' s' d k e dd q => k2 v σ' H' s' d (k.pre kp e) e dd q))
theorem ws_par (i j : Nat) {m : Str} {px py pt : Pos} {kt k2 pt2} {Rs : List PyData → Prop} (hc : X.calm = true) (nd : X.N.Nodup) (w : WA X B h [a, b] ss Rs) (k : ∀ ds, Rs ds → ∃ d e, ds = [d, e] ∧ N ((ss.set i (.d d)).set j (.d e))) (hij : i ≠ j := by decide)
    (hi : X.N[i]? = some n := by rfl) (hj : X.N[j]? = some m := by rfl) (hx : X.env.scope.names.lookup n = some .local := by rfl) (hy : X.env.scope.names.lookup m = some .local := by rfl)
    (hw : swappedStores [.Tuple [.Name n px, .Name m py] kt pt] (.Tuple [a, b] k2 pt2) X.env = pure (some [n, m]) := by rfl)
    (hs : swapsWithSole [.Tuple [.Name n px, .Name m py] kt pt] (.Tuple [a, b] k2 pt2) pos.line X.env = pure false := by rfl) :
    WS X B h (.Assign [.Tuple [.Name n px, .Name m py] kt pt] (.Tuple [a, b] k2 pt2) pos) ss N R := fun σ H D en k1 _ =>
  wS_of (ps_par hc nd hi hj hij hx hy pa_w hw hs) (w σ H _ en fun vs H1 ds kp e1 dd r => by
    obtain ⟨d, e, ed, q⟩ := k ds r
    subst ed
    cases dd with
    | cons r1 dd =>
      cases dd with
      | cons r2 dd =>
        cases dd
        exact ⟨_, _, rfl, k1 _ H1 _ ((Ke.of kp (own_set fun _ _ => by nofun)).trans (.of (Kp.refl _) (own_set fun _ _ => by nofun)) ((e1.set_d r1).set_d r2)) ((e1.set_d r1).set_d r2) q⟩)
/-- a, b = a call, a display: the first a new own list -/
theorem ws_setLc {g : TG} {T : PyData → List Sl → List Sl → Prop} {y : Str} {py : Pos} (i : Nat) (I : List PyData → Nat → List PyData → Prop) (hc : X.calm = true) (hN : X.N.Nodup) (hi : WI X B h tg iter ss P) (ok : BlkOk X.N X.env.scope scope own)
    (hg : ∀ (s : Shared) (H : Hp) (C : Addr) (cl : List (Str × Addr)) (fp : List Addr), PG (Blk X scope s H C cl fp) tg g) (hl : ifs.length ≤ 1)
    (tg_ok : TgOk X.K g (own.map (·.2)) T) (tk : TgKeep (own.map (·.2)) T) (nf : nofS ss (own.map (·.2)) = true) (hz : ∀ ds, P ds → ds.length ≤ 1000) (i0 : ∀ ds, P ds → I ds 0 [])
    (turn : ∀ ds i d acc, P ds → ds[i]? = some d → I ds i acc → (∃ s, T d (wipeS ss (own.map (·.2))) s) ∧ ∀ ss', T d (wipeS ss (own.map (·.2))) ss' → Lct X B h scope ifs elt ss' acc (I ds (i + 1)))
    (k : ∀ ds acc, P ds → acc.length ≤ ds.length → I ds ds.length acc → N (ss.set i (.d (.list acc))))
    (hy : X.N[i]? = some y := by rfl) (hyl : X.env.scope.names.lookup y = some .local := by rfl)
    (hsw : swapsWith (.ListComp elt [⟨tg, iter, ifs, 0⟩] scope pos) (some (.Name y py)) spos.line X.env = pure true := by exact sw_true rfl rfl rfl (by decide +kernel)) (hs : ∀ x, foldedSetIterable iter X.env x = pure x := by intro _; rfl) :
    WS X B h (.Assign [.Name y py] (.ListComp elt [⟨tg, iter, ifs, 0⟩] scope pos) spos) ss N R := by
  obtain ⟨wi, p1, p2⟩ := hi
  exact fun σ H D en k1 _ => wS_of (ps_setLc hc hN hy hyl hsw p1 ok hg (bT_ok hl) bE_ok hs) (lc_read I p2 tg_ok tk nf hz i0 turn en fun L H2 ds xs acc pd ia la HD D0 Dh hx dx kp e2 =>
    k1 _ H2 _ (.of kp (own_set fun _ _ => by nofun)) (e2.set_d (.lst (hid_some.mpr ⟨Dh, hx⟩) (dx.mono (hid_anti fun x hx => List.mem_cons_of_mem _ hx)))) (k ds acc pd la ia))
/-- the list made is an own one -/
theorem ws_setLcF {g : TG} {T : PyData → List Sl → List Sl → Prop} {y : Str} {py : Pos} (i : Nat) (I : List PyData → Nat → List PyData → Prop) (hc : X.calm = true) (hN : X.N.Nodup) (hi : WI X B h tg iter ss P) (ok : BlkOk X.N X.env.scope scope own)
    (hg : ∀ (s : Shared) (H : Hp) (C : Addr) (cl : List (Str × Addr)) (fp : List Addr), PG (Blk X scope s H C cl fp) tg g) (hl : ifs.length ≤ 1)
    (tg_ok : TgOk X.K g (own.map (·.2)) T) (tk : TgKeep (own.map (·.2)) T) (nf : nofS ss (own.map (·.2)) = true) (hz : ∀ ds, P ds → ds.length ≤ 1000) (i0 : ∀ ds, P ds → I ds 0 [])
    (turn : ∀ ds i d acc, P ds → ds[i]? = some d → I ds i acc → (∃ s, T d (wipeS ss (own.map (·.2))) s) ∧ ∀ ss', T d (wipeS ss (own.map (·.2))) ss' → Lct X B h scope ifs elt ss' acc (I ds (i + 1)))
    (nl : ∀ ds acc, P ds → I ds ds.length acc → nlAll acc = true)
    (k : ∀ ds acc L, P ds → acc.length ≤ ds.length → I ds ds.length acc → N (ss.set i (.l L acc)))
    (hy : X.N[i]? = some y := by rfl) (hyl : X.env.scope.names.lookup y = some .local := by rfl)
    (hsw : swapsWith (.ListComp elt [⟨tg, iter, ifs, 0⟩] scope pos) (some (.Name y py)) spos.line X.env = pure true := by exact sw_true rfl rfl rfl (by decide +kernel)) (hs : ∀ x, foldedSetIterable iter X.env x = pure x := by intro _; rfl) :
    WS X B h (.Assign [.Name y py] (.ListComp elt [⟨tg, iter, ifs, 0⟩] scope pos) spos) ss N R := by
  obtain ⟨wi, p1, p2⟩ := hi
  exact fun σ H D en k1 _ => wS_of (ps_setLc hc hN hy hyl hsw p1 ok hg (bT_ok hl) bE_ok hs) (lc_read I p2 tg_ok tk nf hz i0 turn en fun L H2 ds xs acc pd ia la HD D0 Dh hx dx kp e2 =>
    k1 _ H2 _ ⟨fun b o e n _ => kp.get n e, fun q hq => (own_l q hq).imp id fun z => by rw [z]; exact HD⟩ (en.set_l e2 HD D0 Dh hx (dx.mono (hid_anti fun x hx => List.mem_cons_of_mem _ hx)) (nl ds acc pd ia)) (k ds acc L pd la ia))

/-! ### loops -/
def noOwn (ss : List Sl) : Prop := ∀ p, ¬ Own ss p
/-- a target stores data, and owns nothing -/
def TgOwn (T : PyData → List Sl → List Sl → Prop) : Prop := ∀ d s s', T d s s' → ∀ p, Own s' p → Own s p
theorem to_name {j : Nat} : TgOwn (tName j) := fun d s s' t p q => own_set (i := j) (x := .d d) (fun _ _ => by nofun) p (by rw [← show s' = _ from t]; exact q)
theorem to_pair {j k : Nat} : TgOwn (tPair j k) := fun d s s' ⟨x, y, _, t⟩ p q => own_set (i := j) (x := .d x) (fun _ _ => by nofun) p (own_set (i := k) (x := .d y) (fun _ _ => by nofun) p (by rw [← t]; exact q))
theorem Ke.up {K : PySem.W.Frag} {H H1 : Hp} {σ : L2.St} {ss1 : List Sl} (k : Ke B ss ss1 H H1) (E : En K B h H σ ss) (no : noOwn ss) : Same (hid h H) (hid h H1) := fun b o q => by
  obtain ⟨q1, q2⟩ := hid_some.mp q
  exact hid_some.mpr ⟨q1, k.kp b o q2 (fun z => q1 (E.mdh b z)) (no b)⟩
theorem ws_for {g : TG} {T : PyData → List Sl → List Sl → Prop} {vs : List Nat} (I : List PyData → Nat → List Sl → Prop) (hp : PassesOwn (model X.prog X.w) X.A X.env X.xe) (hc : X.calm = true) (hi : WI X B h tg iter ss P) (hg : PG X tg g) (tg_ok : TgOk X.K g vs T) (to : TgOwn T)
    (no : ∀ ds i s, P ds → I ds i s → noOwn s) (i0 : ∀ ds, P ds → I ds 0 ss) (turn : ∀ ds i d s, P ds → ds[i]? = some d → I ds i s → (∃ s', T d s s') ∧ ∀ s', T d s s' → WSs X B h body s' (I ds (i + 1)) R) (k : ∀ ds s, P ds → I ds ds.length s → N s)
    (hs : ∀ x, foldedSetIterable iter X.env x = pure x := by intro _; rfl) : WS X B h (.For tg iter body [] pos) ss N R := by
  obtain ⟨wi, p1, p2⟩ := hi
  refine fun σ H D en k1 k2 => wS_of (ps_for hp hc p1 hg pss_w hs) (p2 σ H _ en fun J H1 ds ok pd src ok1 kp e1 => ?_)
  let W : Nat → Nat → L2.St → Hp → Prop := fun i m σ' H' => m = ds.length - i ∧ i ≤ ds.length ∧ ok h H' ∧ ∃ s, En X.K B h H' σ' s ∧ Ke B ss s H H' ∧ I ds i s
  refine ⟨W, ⟨ds.length, rfl, Nat.zero_le _, ok1, ss, e1, .of kp fun _ z => z, i0 ds pd⟩, ?_⟩
  rintro i m σ' H' ⟨rfl, hi, okH, s, es, ke, is⟩
  by_cases hlt : i < ds.length
  · refine .inr ⟨src.go _ i H' okH hlt, fun σ2 H2 => W (i + 1) (ds.length - (i + 1)) σ2 H2, fun σ2 H2 w => ⟨_, by omega, w⟩, fun v H2 hy => ?_⟩
    have hd : ds[i]? = some ds[i] := List.getElem?_eq_getElem hlt
    obtain ⟨sy, dy⟩ := src.yld _ i H' v H2 _ es.dom okH hd hy
    obtain ⟨tex, tl⟩ := turn ds i _ s pd hd is
    refine tg_ok B h v _ _ H2 _ _ (es.same sy) dy tex fun σ2 s2 t2 en2 _ => ?_
    have k02 : Ke B ss s2 H H2 := ke.trans (.of (Kp.of sy) (to _ _ _ t2)) en2
    have no2 : noOwn s2 := fun p q => no ds i s pd is p (to _ _ _ t2 p q)
    refine tl s2 t2 σ2 H2 _ en2 (fun σ3 H3 s3 k3 e3 q3 => ?_) fun v3 σ3 H3 s3 d3 k3 e3 dd q3 => k2 v3 σ3 H3 s3 d3 (k02.trans k3 e3) e3 dd q3
    exact ⟨rfl, hlt, src.st _ _ _ (src.st _ _ _ okH (hid_same sy)) (k3.up en2 no2), s3, e3, k02.trans k3 e3, q3⟩
  · have e : i = ds.length := by omega
    subst e
    exact .inl ⟨src.stop _ H' okH, k1 σ' H' s ke es (k ds s pd is)⟩
/-- over a range, own lists or not -/
def WR (X : Cx) (B : Bs) (h : List Addr) (tg iter : Expr) (ss : List Sl) (lo : Int) (m : Nat) : Prop :=
  ∃ wi, PI X tg iter wi ∧ ∀ (σ : L2.St) (H : Hp) (R : It → Hp → Prop), En X.K B h H σ ss → (∀ H1, Kp B H H1 → En X.K B h H1 σ ss → R (Itr lo m) H1) → wi σ H R
theorem wr_1 {n : Int} (hg : Gl X "range") (hm : X.mg "range" = none) (w : DE X B h a ss (.int n)) (b1 : -(2 ^ 62) ≤ n) (b2 : n < 2 ^ 62) (hs : starEach [a] X.env = [(false, eval a X.env)] := by rfl) : WR X B h tg (.Call (.Name "range" p) [a] [] pos) ss 0 n.toNat :=
  ⟨_, pi_range1 hg hm pa_w hs, fun σ H R en k => wa_one w hs σ H _ en fun vs H1 ds s e1 dd ⟨d, ed, er⟩ => by
    subst ed er
    cases dd with
    | cons q r =>
      cases q
      cases r
      exact ⟨n, rfl, b1, b2, k H1 s e1⟩⟩
theorem wr_2 {lo n : Int} (hg : Gl X "range") (hm : X.mg "range" = none) (w : DE X B h a ss (.int lo)) (w2 : DE X B h b ss (.int n)) (hb : -(2 ^ 62) ≤ lo ∧ lo < 2 ^ 62 ∧ -(2 ^ 62) ≤ n ∧ n < 2 ^ 62)
    (hs : starEach [a, b] X.env = [(false, eval a X.env), (false, eval b X.env)] := by rfl) (hs2 : starEach [b] X.env = [(false, eval b X.env)] := by rfl) (hs3 : starEach (a :: [b]) X.env = (false, eval a X.env) :: starEach [b] X.env := by rfl) (hs4 : starEach (b :: []) X.env = (false, eval b X.env) :: starEach [] X.env := by rfl) :
    WR X B h tg (.Call (.Name "range" p) [a, b] [] pos) ss lo (n - lo).toNat :=
  ⟨_, pi_range2 hg hm pa_w hs hs2, fun σ H R en k => da_cons w (da_cons w2 wa_nil hs4) hs3 σ H _ en fun vs H1 ds s e1 dd er => by
    subst er
    cases dd with
    | cons q r =>
      cases q
      cases r with
      | cons q r =>
        cases q
        cases r
        exact ⟨lo, n, rfl, hb, k H1 s e1⟩⟩
theorem ws_forR {m : Nat} {lo : Int} {j : Nat} (I : Nat → List Sl → Prop) (hp : PassesOwn (model X.prog X.w) X.A X.env X.xe) (hc : X.calm = true) (hi : WR X B h tg iter ss lo m) (hg : PG X tg (gName j))
    (i0 : I 0 ss) (turn : ∀ i s, i < m → I i s → WSs X B h body (s.set j (.d (.int (lo + (i : Nat))))) (I (i + 1)) R) (k : ∀ s, I m s → N s)
    (hs : ∀ x, foldedSetIterable iter X.env x = pure x := by intro _; rfl) : WS X B h (.For tg iter body [] pos) ss N R := by
  obtain ⟨wi, p1, p2⟩ := hi
  refine fun σ H D en k1 k2 => wS_of (ps_for hp hc p1 hg pss_w hs) (p2 σ H _ en fun H1 kp e1 => ?_)
  let W : Nat → Nat → L2.St → Hp → Prop := fun i n σ' H' => n = m - i ∧ i ≤ m ∧ ∃ s, En X.K B h H' σ' s ∧ Ke B ss s H H' ∧ I i s
  refine ⟨W, ⟨m, rfl, Nat.zero_le _, ss, e1, .of kp fun _ z => z, i0⟩, ?_⟩
  rintro i n σ' H' ⟨rfl, hi, s, es, ke, is⟩
  by_cases hlt : i < m
  · refine .inr ⟨hlt, fun σ2 H2 => W (i + 1) (m - (i + 1)) σ2 H2, fun σ2 H2 w => ⟨_, by omega, w⟩, fun v H2 hy => ?_⟩
    obtain ⟨y1, y2⟩ := hy
    subst y1 y2
    have en2 : En X.K B h H2 (σ'.set j (some (.int (lo + (i : Nat))))) (s.set j (.d (.int (lo + (i : Nat))))) := es.set_d (.int _)
    have k02 : Ke B ss (s.set j (.d (.int (lo + (i : Nat))))) H H2 := ke.trans (.of (Kp.refl _) (own_set fun _ _ => by nofun)) en2
    exact turn i s hlt is _ H2 _ en2 (fun σ3 H3 s3 k3 e3 q3 => ⟨rfl, hlt, s3, e3, k02.trans k3 e3, q3⟩) fun v3 σ3 H3 s3 d3 k3 e3 dd q3 => k2 v3 σ3 H3 s3 d3 (k02.trans k3 e3) e3 dd q3
  · have e : i = m := by omega
    subst e
    exact .inl ⟨Nat.le_refl _, k1 σ' H' s ke es (k s is)⟩
end

/-! ### defs -/
/-- a def's promise on calls; g: it asks that no display is under way around it -/
structure FnV (g : Bool) (P : Program) (w : World) (K : PySem.W.Frag) (mg : Str → Option Value) (base : Heap) (CX : CXT) (k : Nat) (f : Addr) (fd : FuncData) (ps : List Str) (sp : Sp) : Prop where
  len : ∀ vs H Q E, sp vs H Q E → vs.length = ps.length
  run : ∀ (A : Around) (outer : List Env) (s : Shared) (H : Hp) (args : Args) (us : List Value) (vs : List V) (Q : VK) (E : XK), (g = true → A.guards = some []) → Room k A → Env0 P w K mg base A outer s H → BindsTo s fd args (ps.zip us) → Vals vs us → sp vs H Q E →
    codeAny (model P w) A (.call (.ref f) args) (CR CX outer P w H s Q E) s
theorem FnV.of {P : Program} {w : World} {K : PySem.W.Frag} {mg : Str → Option Value} {base : Heap} {CX : CXT} {k : Nat} {f : Addr} {fd : FuncData} {ps : List Str} {sp : Sp} (F : FnOk P w K mg base CX k f fd ps sp) : FnV false P w K mg base CX k f fd ps sp :=
  ⟨F.len, fun A outer s H args us vs Q E _ hr e0 hb r hs => F.run A outer s H args us vs Q E hr e0 hb r hs⟩
/-- a def of the module as its callers know it -/
structure Cl (g : Bool) (P : Program) (w : World) (K : PySem.W.Frag) (mg : Str → Option Value) (base : Heap) (k : Nat) (x : Str) (sp : Sp) : Prop where
  ok : ∃ (f : Addr) (fd : FuncData) (ps : List Str), FnV g P w K mg base CX0 k f fd ps sp ∧ mg x = some (.ref f) ∧ PySem.W.keepIn K (.ref f) = true ∧ Binds K fd ps []
/-- a pure promise: from data ds to a datum of R -/
def spP (pm : List PyData → (PyData → Prop) → Prop) : Sp := fun vs H Q _ => ∃ (h : List Addr) (ds : List PyData) (R : PyData → Prop), (∀ q ∈ h, IsL H q) ∧ DaL (hid h H) vs ds ∧ pm ds R ∧ ∀ v H' d, Same H H' → Da (hid h H') v d → R d → Q v H'
/-- a drawing promise: the fount first -/
def spI (pm : List PyData → (PyData → Prop) → Prop) : Sp := fun vs H Q _ => ∃ (h : List Addr) (F G : Addr) (vr : List V) (ds : List PyData) (R : PyData → Prop), vs = .ref F :: vr ∧ F ∈ h ∧ G ∈ h ∧ (∀ q ∈ h, IsL H q) ∧ Fount F G H ∧ DaL (hid h H) vr ds ∧ pm ds R ∧
  ∀ v H' d, Same (hid [F, G] H) (hid [F, G] H') → Fount F G H' → Da (hid h H') v d → R d → Q v H'
section
variable {X : Cx} {B : Bs} {h : List Addr} {ss : List Sl} {e : Expr} {es : List Expr} {pos p p0 : Pos} {x : Str} {g : Bool} {k j : Nat} {sp : Sp}
theorem pe_callV {t : TA} (c : Cl g X.prog X.w X.K X.mg X.base k x sp) (gd : g = true → X.A.guards = some []) (hr : Room k X.A) (hg : Gl X x) (ha : PA X (e :: es) t)
    (hdb : (x == ("__debug__" : Str)) = false := by decide) (he : starEach (e :: es) X.env = (false, eval e X.env) :: starEach es X.env := by rfl) (hpl : (backTo pos (starEach es X.env)).any (·.1) = false := by rfl) :
    PE X (.Call (.Name x p) (e :: es) [] pos) (tCall sp [] E0 t) := by
  obtain ⟨f, fd, ps, F, hm, hk, hb⟩ := c.ok
  refine ⟨fun pins s σ H Q I hq => ?_⟩
  refine wpAny_Call_Name_kw (ld_glob I hg hm ?_ hdb)
  refine PySem.W.callWith_K (h₀ := X.base) I.ok.mod.kin hk (thn (ha.run pos pins s σ H _ I hq) fun us s1 ⟨vs, H1, I1, r, q⟩ => ⟨I1.kIn, ?_⟩) he hpl
  replace q : sp vs H1 Q E0 := by
    have q' := q
    simp only [List.append_nil] at q'
    exact q'
  have ln : (us ++ []).length = ps.length := by
    rw [List.append_nil, ← r.length]
    exact F.len _ _ _ _ q
  have hbb := hb s1 us I1.kIn ln
  rw [List.append_nil] at hbb
  refine wpAny_call (codeAny_mono (F.run X.A X.stack s1 H1 ⟨us, []⟩ us vs Q E0 gd hr I1.env0 hbb r q) fun res s2 hq2 => ?_)
  match res, hq2 with
  | .ok (.ret u), hq2 => exact I1.after hq2
  | .error e, hq2 => exact False.elim hq2
/-- a pure def is called -/
theorem we_call {pm : List PyData → (PyData → Prop) → Prop} {Rs : List PyData → Prop} {R : PyData → Prop} (c : Cl g X.prog X.w X.K X.mg X.base k x (spP pm)) (hr : Room j X.A) (hkj : k ≤ j) (hg : Gl X x) (w : WA X B h (e :: es) ss Rs) (hp : ∀ ds, Rs ds → pm ds R)
    (gd : g = true → X.A.guards = some [] := by nofun) (hdb : (x == ("__debug__" : Str)) = false := by decide) (he : starEach (e :: es) X.env = (false, eval e X.env) :: starEach es X.env := by rfl) (hpl : (backTo pos (starEach es X.env)).any (·.1) = false := by rfl) :
    WE X B h (.Call (.Name x p) (e :: es) [] pos) ss R := fun σ H Q en kk =>
  wE_of (pe_callV c gd (hr.mono hkj) hg pa_w hdb he hpl) (w σ H _ en fun vs H1 ds kp e1 dd r => ⟨h, ds, R, e1.dom, by rw [List.append_nil]; exact dd, hp ds r, fun v H' d s d' r' => kk v H' d (kp.trans (Kp.of s)) (e1.same s) d' r'⟩)
/-- what a drawing has left of the slots -/
def oneF (F G : Addr) (ss : List Sl) : Prop := ∀ x ∈ ss, ∀ F' G', x = .f F' G' → F' = F ∧ G' = G
theorem En.drawn {K : PySem.W.Frag} {H H' : Hp} {σ : L2.St} (E : En K B h H σ ss) {F G : Addr} (hF : F ∈ B.md) (hG : G ∈ B.md) (o : oneF F G ss) (s : Same (hid [F, G] H) (hid [F, G] H')) (f : Fount F G H') : En K B h H' σ ss ∧ Kp B H H' := by
  have kp : Kp B H H' := fun b ob q => by
    obtain ⟨q1, q2⟩ := hid_some.mp q
    have hb : b ∉ [F, G] := fun z => q1 (by
      rcases List.mem_cons.mp z with z | z
      · rw [z]; exact hF
      · rw [List.mem_singleton.mp z]; exact hG)
    exact hid_some.mpr ⟨q1, (hid_some.mp (s b ob (hid_some.mpr ⟨hb, q2⟩))).2⟩
  refine ⟨⟨E.rel.trans kp, fun x hx => ?_, E.mdh, E.len, fun i x hi => ?_, E.nd⟩, kp⟩
  · by_cases hb : x ∈ [F, G]
    · obtain ⟨_, gs, st, ct, f1, f2, _⟩ := f
      rcases List.mem_cons.mp hb with z | z
      · exact ⟨_, by rw [z, f1]⟩
      · exact ⟨_, by rw [List.mem_singleton.mp z, f2]⟩
    · obtain ⟨ys, q⟩ := E.dom x hx
      exact ⟨ys, (hid_some.mp (s x _ (hid_some.mpr ⟨hb, q⟩))).2⟩
  · rcases E.sl i x hi with z | ⟨v, a, q⟩
    · exact .inl z
    · refine .inr ⟨v, a, ?_⟩
      cases x with
      | u => trivial
      | d x => exact Da.mono (E.up kp) q
      | l p ds =>
        obtain ⟨a, b, c, d, xs, e1, e2⟩ := q
        exact ⟨a, b, c, d, xs, kp.get (fun z => b (E.mdh p z)) e1, e2.mono (E.up kp)⟩
      | f F' G' =>
        obtain ⟨a, b, c, d⟩ := q
        obtain ⟨z1, z2⟩ := o _ (List.mem_of_getElem? hi) F' G' rfl
        subst z1 z2
        exact ⟨a, b, c, f⟩
      | q a ns => exact q
/-- a drawing def is called; i: the fount's slot -/
theorem we_callI {pm : List PyData → (PyData → Prop) → Prop} {Rs : List PyData → Prop} {R : PyData → Prop} {F G : Addr} {m : Str} {e2 : Expr} (i : Nat) (c : Cl g X.prog X.w X.K X.mg X.base k x (spI pm)) (hr : Room j X.A) (hkj : k ≤ j) (hg : Gl X x) (hi : ss[i]? = some (.f F G)) (o : oneF F G ss) (w : WA X B h (e2 :: es) ss Rs) (hp : ∀ ds, Rs ds → pm ds R)
    (gd : g = true → X.A.guards = some [] := by nofun) (hN : X.N[i]? = some m := by rfl) (hv : Vis X.env.scope m := by first | exact Or.inl rfl | exact Or.inr (Or.inl rfl) | exact Or.inr (Or.inr rfl))
    (hd : (m == ("__debug__" : Str)) = false := by decide) (hcd : (m == ("__classdict__" : Str)) = false := by decide) (hdb : (x == ("__debug__" : Str)) = false := by decide)
    (he : starEach (.Name m p0 :: e2 :: es) X.env = (false, eval (.Name m p0) X.env) :: starEach (e2 :: es) X.env := by rfl) (hpl : (backTo pos (starEach (e2 :: es) X.env)).any (·.1) = false := by rfl) :
    WE X B h (.Call (.Name x p) (.Name m p0 :: e2 :: es) [] pos) ss R := fun σ H Q en kk => by
  refine wE_of (pe_callV c gd (hr.mono hkj) hg (pa_cons (pe_var hN hv hd hcd) pa_w he) hdb he hpl) ?_
  obtain ⟨h1, h2, h3, h4⟩ := en.at_f hi
  refine ⟨_, h1, w σ H _ en fun vs H1 ds kp e1 dd r => ?_⟩
  obtain ⟨g1, g2, g3, g4⟩ := e1.at_f hi
  refine ⟨h, F, G, vs, ds, R, by rw [List.append_nil], e1.mdh _ g2, e1.mdh _ g3, e1.dom, g4, dd, hp ds r, fun v H' d s f d' r' => ?_⟩
  obtain ⟨e2, kp2⟩ := e1.drawn g2 g3 o s f
  exact kk v H' d (kp.trans kp2) e2 d' r'
end

/-! ### a def by its body -/
theorem deeper_guards {A : Around} {env : Env} : (A.deeper env).guards = A.guards := rfl
section
variable {P : Program} {w : World} {K : PySem.W.Frag} {mg : Str → Option Value} {base : Heap} {x qual : Str} {st : Stmt} {f : Addr} {fd : FuncData} {N ps : List Str} {k : Nat} {g : Bool}
theorem start_len {vs : List V} (l : vs.length ≤ N.length) : (L2.start N vs).length = N.length := by
  unfold L2.start
  rw [List.length_append, List.length_map, List.length_replicate]
  omega
/-- the slots at the entry: the parameters' data, then nothing -/
def ent (N : List Str) (ds : List PyData) : List Sl := ds.map Sl.d ++ List.replicate (N.length - ds.length) .u
theorem En.entry {H : Hp} {h : List Addr} {vs : List V} {ds : List PyData} (dom : ∀ q ∈ h, IsL H q) (dd : DaL (hid h H) vs ds) (l : ds.length ≤ N.length) : En K ⟨H, []⟩ h H (L2.start N vs) (ent N ds) where
  rel := Same.refl _
  dom := dom
  mdh := fun _ z => absurd z List.not_mem_nil
  len := by
    rw [start_len (by rw [dd.length]; exact l)]
    unfold ent
    rw [List.length_append, List.length_map, List.length_replicate]
    omega
  sl := fun i y hi => by
    unfold ent at hi
    by_cases hl : i < ds.length
    · rw [List.getElem?_append_left (by simpa using hl), List.getElem?_map] at hi
      obtain ⟨v, hv, dv⟩ := dd.getD (List.getElem?_eq_getElem hl)
      rw [List.getElem?_eq_getElem hl] at hi
      cases hi
      refine .inr ⟨v, ?_, dv⟩
      unfold L2.start
      rw [List.getElem?_append_left (by rw [List.length_map, dd.length]; exact hl), List.getElem?_map, hv]
      rfl
    · rw [List.getElem?_append_right (by rw [List.length_map]; omega), List.getElem?_replicate] at hi
      split at hi
      · exact .inl (Option.some.inj hi).symm
      · cases hi
  nd := fun i j p ds' es hi hj => by
    unfold ent at hi
    by_cases hl : i < ds.length
    · rw [List.getElem?_append_left (by simpa using hl), List.getElem?_map, List.getElem?_eq_getElem hl] at hi
      cases hi
    · rw [List.getElem?_append_right (by rw [List.length_map]; omega), List.getElem?_replicate] at hi
      split at hi <;> cases hi
/-- THE RULE for a pure def -/
theorem fnP {pm : List PyData → (PyData → Prop) → Prop} (F : Fun K x qual st f fd) (S : FnScope N ps (defScope st)) (ln : ∀ ds R, pm ds R → ds.length = ps.length) (lp : ps.length ≤ N.length)
    (body : ∀ (X : Cx) (H : Hp) (h : List Addr) (ds : List PyData) (R : PyData → Prop), (∃ cdv A outer s E, X = (cxOf CX0 P w K mg base N qual (defScope st) f cdv A outer s H E).nox ∧ Room k X.A) → pm ds R →
      WSs X ⟨H, []⟩ h (defBody st) (ent N ds) (fun _ => R .none) (fun _ d => R d)) : FnOk P w K mg base CX0 (k + 1) f fd ps (spP pm) := by
  refine F.ok S (fun vs H Q E ⟨h, ds, R, _, dd, pd, _⟩ => by rw [dd.length]; exact ln ds R pd) fun cdv A outer s H vs Q E hr ⟨h, ds, R, dom, dd, pd, q⟩ => ?_
  refine ⟨_, pss_w, ?_⟩
  have fin : ∀ {σ' : L2.St} {H' : Hp} {s' : List Sl}, En K ⟨H, []⟩ h H' σ' s' → Same H H' := fun e => by
    have := e.rel
    rw [show (⟨H, []⟩ : Bs).md = [] from rfl, hid_nil, hid_nil] at this
    exact this
  refine body _ H h ds R ⟨cdv, A, outer, s, E, rfl, hr⟩ pd _ H _ (En.entry dom dd (by rw [ln ds R pd]; exact lp)) (fun σ' H' s' _ e r => q .non H' .none (fin e) .non r) fun v σ' H' s' d _ e dv r => q v H' d (fin e) dv r
end
end F26

/-! built-ins on data -/
namespace F26
open PySem PySem.Spec L2

section
variable {X : Cx} {B : Bs} {h : List Addr} {ss : List Sl} {e a b c lo hi : Expr} {es : List Expr} {pos p p2 q : Pos} {R Ra : PyData → Prop} {x y : PyData} {ds : List PyData} {i j : Int} {f : Str}
theorem crd_len {d : PyData} (sq : isSq ds d) (r : R (.int (ds.length : Nat))) : CRD h (fun xs H Q => ∃ p ys, xs = [V.ref p] ∧ (SqL X.K H p ys ∨ SqT X.K H p ys) ∧ Q (.int ys.length) H) [d] R := fun H vs Q _ dd k => by
  cases dd with
  | cons q r' =>
    cases r'
    rcases sq with sq | sq
    · subst sq
      cases q with
      | lst q r' => exact ⟨_, _, rfl, .inl (SqL.of (hid_some.mp q).2), by rw [r'.length]; exact k _ H _ (Same.refl _) (.int _) r⟩
    · subst sq
      cases q with
      | tup q r' => exact ⟨_, _, rfl, .inr (SqT.of (hid_some.mp q).2), by rw [r'.length]; exact k _ H _ (Same.refl _) (.int _) r⟩
/-- a built-in of one argument -/
theorem we_b1 {id : String} {r : List V → Hp → VK → Prop} (hc : CallR X (.builtin id) r) (hg : Gl X f) (hm : X.mg f = none) (hv : bootBuiltins f = some (.builtin id)) (w : WE X B h e ss Ra) (hr : ∀ d, Ra d → CRD h r [d] R)
    (hn : f ≠ "__name__" := by decide) (hdb : (f == ("__debug__" : Str)) = false := by decide) (he : starEach (e :: []) X.env = (false, eval e X.env) :: starEach [] X.env := by rfl) (hpl : (backTo pos (starEach [] X.env)).any (·.1) = false := by rfl) :
    WE X B h (.Call (.Name f p) [e] [] pos) ss R := we_callB hc hg hm hv (wa_one w he) (fun ds ⟨d, ed, rd⟩ => by rw [ed]; exact hr d rd) hn hdb he hpl
theorem we_t1 {T : String} {r : List V → Hp → VK → Prop} (hc : CallR X (.type T) r) (hg : Gl X f) (hm : X.mg f = none) (hv : bootBuiltins f = some (.type T)) (w : WE X B h e ss Ra) (hr : ∀ d, Ra d → CRD h r [d] R)
    (hn : f ≠ "__name__" := by decide) (hdb : (f == ("__debug__" : Str)) = false := by decide) (he : starEach (e :: []) X.env = (false, eval e X.env) :: starEach [] X.env := by rfl) (hpl : (backTo pos (starEach [] X.env)).any (·.1) = false := by rfl) :
    WE X B h (.Call (.Name f p) [e] [] pos) ss R := we_callTy hc hg hm hv (wa_one w he) (fun ds ⟨d, ed, rd⟩ => by rw [ed]; exact hr d rd) hn hdb he hpl
theorem we_len (hg : Gl X "len") (hm : X.mg "len" = none) (w : WE X B h e ss fun d => ∃ ds, isSq ds d ∧ R (.int (ds.length : Nat))) (he : starEach (e :: []) X.env = (false, eval e X.env) :: starEach [] X.env := by rfl) (hpl : (backTo pos (starEach [] X.env)).any (·.1) = false := by rfl) :
    WE X B h (.Call (.Name "len" p) [e] [] pos) ss R := we_b1 call_len_seq hg hm PySem.boot_len w (fun d ⟨ds, sq, r⟩ => crd_len sq r) (he := he) (hpl := hpl)
theorem de_len (hg : Gl X "len") (hm : X.mg "len" = none) (sq : isSq ds x) (w : DE X B h e ss x) (he : starEach (e :: []) X.env = (false, eval e X.env) :: starEach [] X.env := by rfl) (hpl : (backTo pos (starEach [] X.env)).any (·.1) = false := by rfl) :
    DE X B h (.Call (.Name "len" p) [e] [] pos) ss (.int (ds.length : Nat)) := we_len hg hm (w.imp fun d q => ⟨ds, by rw [q]; exact sq, rfl⟩) he hpl
theorem crd_tuple {d : PyData} (sq : isSq ds d) (r : R (.tuple ds)) : CRD h (fun xs H Q => ∃ p ys, xs = [V.ref p] ∧ ((SqL X.K H p ys ∧ ∀ l, H l = none → Q (.ref l) (upd H l (.tup ys))) ∨ (SqT X.K H p ys ∧ Q (.ref p) H))) [d] R := fun H vs Q dom dd k => by
  cases dd with
  | cons q r' =>
    cases r'
    rcases sq with sq | sq
    · subst sq
      cases q with
      | lst q r' => exact ⟨_, _, rfl, .inl ⟨SqL.of (hid_some.mp q).2, fun l hl => k _ _ _ (Same.new hl) (Da.newTup dom hl r') r⟩⟩
    · subst sq
      cases q with
      | tup q r' => exact ⟨_, _, rfl, .inr ⟨SqT.of (hid_some.mp q).2, k _ H _ (Same.refl _) (.tup q r') r⟩⟩
theorem we_tuple (hg : Gl X "tuple") (hm : X.mg "tuple" = none) (w : WE X B h e ss fun d => ∃ ds, isSq ds d ∧ R (.tuple ds)) (he : starEach (e :: []) X.env = (false, eval e X.env) :: starEach [] X.env := by rfl) (hpl : (backTo pos (starEach [] X.env)).any (·.1) = false := by rfl) :
    WE X B h (.Call (.Name "tuple" p) [e] [] pos) ss R := we_t1 call_tuple_of hg hm (by decide +kernel) w (fun d ⟨ds, sq, r⟩ => crd_tuple sq r) (he := he) (hpl := hpl)
theorem de_tuple (hg : Gl X "tuple") (hm : X.mg "tuple" = none) (sq : isSq ds x) (w : DE X B h e ss x) (he : starEach (e :: []) X.env = (false, eval e X.env) :: starEach [] X.env := by rfl) (hpl : (backTo pos (starEach [] X.env)).any (·.1) = false := by rfl) :
    DE X B h (.Call (.Name "tuple" p) [e] [] pos) ss (.tuple ds) := we_tuple hg hm (w.imp fun d q => ⟨ds, by rw [q]; exact sq, rfl⟩) he hpl
theorem crd_list {d : PyData} (sq : isSq ds d) (r : R (.list ds)) : CRD h (fun xs H Q => ∃ p ys, xs = [V.ref p] ∧ (SqL X.K H p ys ∨ SqT X.K H p ys) ∧ ∀ l, H l = none → Q (.ref l) (upd H l (.lst ys))) [d] R := fun H vs Q dom dd k => by
  cases dd with
  | cons q r' =>
    cases r'
    rcases sq with sq | sq
    · subst sq
      cases q with
      | lst q r' => exact ⟨_, _, rfl, .inl (SqL.of (hid_some.mp q).2), fun l hl => k _ _ _ (Same.new hl) (Da.newLst dom hl r') r⟩
    · subst sq
      cases q with
      | tup q r' => exact ⟨_, _, rfl, .inr (SqT.of (hid_some.mp q).2), fun l hl => k _ _ _ (Same.new hl) (Da.newLst dom hl r') r⟩
theorem we_list (hg : Gl X "list") (hm : X.mg "list" = none) (w : WE X B h e ss fun d => ∃ ds, isSq ds d ∧ R (.list ds)) (he : starEach (e :: []) X.env = (false, eval e X.env) :: starEach [] X.env := by rfl) (hpl : (backTo pos (starEach [] X.env)).any (·.1) = false := by rfl) :
    WE X B h (.Call (.Name "list" p) [e] [] pos) ss R := we_t1 call_list_of hg hm (by decide +kernel) w (fun d ⟨ds, sq, r⟩ => crd_list sq r) (he := he) (hpl := hpl)
theorem de_list (hg : Gl X "list") (hm : X.mg "list" = none) (sq : isSq ds x) (w : DE X B h e ss x) (he : starEach (e :: []) X.env = (false, eval e X.env) :: starEach [] X.env := by rfl) (hpl : (backTo pos (starEach [] X.env)).any (·.1) = false := by rfl) :
    DE X B h (.Call (.Name "list" p) [e] [] pos) ss (.list ds) := we_list hg hm (w.imp fun d q => ⟨ds, by rw [q]; exact sq, rfl⟩) he hpl
theorem de_sum {ns : List Int} (hc : X.calm = true) (hg : Gl X "sum") (hm : X.mg "sum" = none) (w : DE X B h e ss (.list (ns.map .int))) (he : starEach (e :: []) X.env = (false, eval e X.env) :: starEach [] X.env := by rfl) (hpl : (backTo pos (starEach [] X.env)).any (·.1) = false := by rfl) :
    DE X B h (.Call (.Name "sum" p) [e] [] pos) ss (.int ns.sum) := we_b1 (cr_sum hc) hg hm (by decide +kernel) w (fun d ed H vs Q dom dd k => by
  subst ed
  cases dd with
  | cons q r' =>
    cases r'
    cases q with
    | lst q r' => exact ⟨_, ns, rfl, SqL.of (by rw [(hid_some.mp q).2, r'.ints]), k _ H _ (Same.refl _) (.int _) rfl⟩) (he := he) (hpl := hpl)
theorem DaL.bls {H : Hp} : ∀ {ns : List Bool} {vs : List V}, DaL H vs (ns.map .bool) → vs = ns.map V.bl
  | [], _, h => by cases h; rfl
  | n :: ns, _, h => by
    cases h with
    | cons h1 h2 =>
      cases h1
      rw [DaL.bls h2]
      rfl
theorem de_all {ns : List Bool} (hc : X.calm = true) (hg : Gl X "all") (hm : X.mg "all" = none) (w : DE X B h e ss (.list (ns.map .bool))) (he : starEach (e :: []) X.env = (false, eval e X.env) :: starEach [] X.env := by rfl) (hpl : (backTo pos (starEach [] X.env)).any (·.1) = false := by rfl) :
    DE X B h (.Call (.Name "all" p) [e] [] pos) ss (.bool (ns.all id)) := we_b1 (cr_all hc) hg hm (by decide +kernel) w (fun d ed H vs Q dom dd k => by
  subst ed
  cases dd with
  | cons q r' =>
    cases r'
    cases q with
    | lst q r' => exact ⟨_, ns, rfl, SqL.of (by rw [(hid_some.mp q).2, r'.bls]), k _ H _ (Same.refl _) (.bl _) rfl⟩) (he := he) (hpl := hpl)
theorem de_toInt (hg : Gl X "int") (hm : X.mg "int" = none) (w : DE X B h e ss (.int i)) (he : starEach (e :: []) X.env = (false, eval e X.env) :: starEach [] X.env := by rfl) (hpl : (backTo pos (starEach [] X.env)).any (·.1) = false := by rfl) :
    DE X B h (.Call (.Name "int" p) [e] [] pos) ss (.int i) := we_t1 call_int1 hg hm (by decide +kernel) w (fun d ed H vs Q dom dd k => by
  subst ed
  cases dd with
  | cons q r' =>
    cases r'
    cases q
    exact .inl ⟨i, rfl, k _ H _ (Same.refl _) (.int _) rfl⟩) (he := he) (hpl := hpl)
/-- tuple(range(n)) -/
theorem de_tupRange {n : Int} (hc : X.calm = true) (hg : Gl X "tuple") (hm : X.mg "tuple" = none) (hg2 : Gl X "range") (hm2 : X.mg "range" = none) (w : DE X B h a ss (.int n)) (b0 : 0 ≤ n) (b1 : n ≤ 1000)
    (hs : starEach (a :: []) X.env = (false, eval a X.env) :: starEach [] X.env := by rfl) (na : starEach (.Call (.Name "range" p2) [a] [] q :: []) X.env = (false, eval (.Call (.Name "range" p2) [a] [] q) X.env) :: starEach [] X.env := by rfl) :
    DE X B h (.Call (.Name "tuple" p) [.Call (.Name "range" p2) [a] [] q] [] pos) ss (.tuple (rangeD 0 n.toNat)) := fun σ H Q en k =>
  wE_of (pe_tupRg hc hg hm (prg_1 hg2 hm2 pe_w (na := hs)) na) (w σ H _ en fun v H1 d kp e1 dd ed => by
    subst ed
    cases dd
    refine ⟨n, rfl, RgOk.of_le (by decide) (by omega) (by decide) b0, fun q hq => k _ _ _ (kp.trans (Kp.of (Same.new hq))) (e1.same (Same.new hq)) (Da.newTup e1.dom hq ?_) rfl⟩
    have : ∀ l : List Nat, DaL (hid h H1) (l.map fun i => V.int (0 + (i : Nat))) (l.map fun i => PyData.int (0 + (i : Nat))) := fun l => by
      induction l with
      | nil => exact .nil
      | cons m l ih => exact .cons (.int _) ih
    unfold rgV rangeD
    rw [Int.sub_zero]
    exact this _)

/-! ### subscripts, slices -/
theorem de_ix {n : Nat} {d : PyData} (sq : isSq ds x) (ha : DE X B h a ss x) (hb : DE X B h b ss (.int i)) (hi : i = (n : Int)) (hd : ds[n]? = some d) (hs : PlainIx b := by exact fun _ _ => rfl) : DE X B h (.Subscript a b pos) ss d := fun σ H Q en k => by
  rcases sq with sq | sq
  · subst sq hi
    refine wE_of (pe_ix ix_list pe_w pe_w hs) (ha σ H _ en fun va H1 da k1 e1 da' ea => ?_)
    subst ea
    refine hb σ H1 _ e1 fun vb H2 db k2 e2 db' eb => ?_
    subst eb
    cases db'
    cases da'.mono (e1.up k2) with
    | lst q r =>
      obtain ⟨v, hv, dv⟩ := r.getD hd
      exact ⟨_, _, _, v, rfl, rfl, SqL.of (hid_some.mp q).2, atI_nat hv, k v H2 d (k1.trans k2) e2 dv rfl⟩
  · subst sq hi
    refine wE_of (pe_ix ix_tup pe_w pe_w hs) (ha σ H _ en fun va H1 da k1 e1 da' ea => ?_)
    subst ea
    refine hb σ H1 _ e1 fun vb H2 db k2 e2 db' eb => ?_
    subst eb
    cases db'
    cases da'.mono (e1.up k2) with
    | tup q r =>
      obtain ⟨v, hv, dv⟩ := r.getD hd
      exact ⟨_, _, _, v, rfl, rfl, SqT.of (hid_some.mp q).2, atI_nat hv, k v H2 d (k1.trans k2) e2 dv rfl⟩
/-- an item at a drawn place -/
theorem we_ixN {Rn : Nat → Prop} (ha : DE X B h a ss (.list ds)) (hb : WE X B h b ss fun d => ∃ n : Nat, d = .int (n : Nat) ∧ Rn n) (hd : ∀ n, Rn n → ∃ d, ds[n]? = some d ∧ R d) (hs : PlainIx b := by exact fun _ _ => rfl) : WE X B h (.Subscript a b pos) ss R := fun σ H Q en k => by
  refine wE_of (pe_ix ix_list pe_w pe_w hs) (ha σ H _ en fun va H1 da k1 e1 da' ea => ?_)
  subst ea
  refine hb σ H1 _ e1 fun vb H2 db k2 e2 db' ⟨n, eb, rn⟩ => ?_
  subst eb
  cases db'
  obtain ⟨d, hd, rd⟩ := hd n rn
  cases da'.mono (e1.up k2) with
  | lst q r =>
    obtain ⟨v, hv, dv⟩ := r.getD hd
    exact ⟨_, _, _, v, rfl, rfl, SqL.of (hid_some.mp q).2, atI_nat hv, k v H2 d (k1.trans k2) e2 dv rd⟩
/-- xs[n:] -/
theorem de_from {n : Nat} (ha : DE X B h a ss (.list ds)) (hb : DE X B h lo ss (.int (n : Nat))) : DE X B h (.Subscript a (.Slice (some lo) none none p2) pos) ss (.list (ds.drop n)) := fun σ H Q en k => by
  refine wE_of (pe_slice sl_list pe_w (po_some pe_w) po_none) (ha σ H _ en fun va H1 da k1 e1 da' ea => ?_)
  subst ea
  refine hb σ H1 _ e1 fun vb H2 db k2 e2 db' eb => ?_
  subst eb
  cases db'
  cases da'.mono (e1.up k2) with
  | lst q r =>
    refine ⟨_, rfl, _, _, rfl, SqL.of (hid_some.mp q).2, fun p hp => k _ _ _ ((k1.trans k2).trans (Kp.of (Same.new hp))) (e2.same (Same.new hp)) (Da.newLst e2.dom hp ?_) rfl⟩
    rename_i xs
    have e : cutV xs (some ((n : Nat) : Int)) none = xs.drop n := by
      unfold cutV
      rw [HT.sIx_nat, HT.sIx_none]
      by_cases hn : n ≤ xs.length
      · rw [Nat.min_eq_left hn]
        exact List.take_of_length_le (by rw [List.length_drop]; exact Nat.le_refl _)
      · rw [Nat.min_eq_right (by omega), List.drop_of_length_le (Nat.le_refl _), List.drop_of_length_le (by omega)]
        simp
    rw [e]
    exact r.drop n
/-- isinstance(x, tuple), x a tuple -/
theorem de_isTup {e2 : Expr} (hg : Gl X "isinstance") (hm : X.mg "isinstance" = none) (hg2 : Gl X "tuple") (hm2 : X.mg "tuple" = none) (w : DE X B h e ss (.tuple ds))
    (he : starEach (e :: [.Name "tuple" p2]) X.env = (false, eval e X.env) :: starEach [.Name "tuple" p2] X.env := by rfl) (hpl : (backTo pos (starEach [.Name "tuple" p2] X.env)).any (·.1) = false := by rfl) (he2 : starEach (.Name "tuple" p2 :: []) X.env = (false, eval (.Name "tuple" p2) X.env) :: starEach [] X.env := by rfl) :
    DE X B h (.Call (.Name "isinstance" p) [e, .Name "tuple" p2] [] pos) ss (.bool true) := fun σ H Q en k => by
  refine wE_of (pe_callB RZ.call_isTy hg hm PyProof.Rows.boot_isinstance (pa_cons pe_w (pa_cons (pe_bltn (v := .ty "tuple") hg2 hm2 (by decide +kernel) rfl) pa_nil he2) he) (he := he) (hpl := hpl)) ?_
  refine w σ H _ en fun v H1 d kp e1 dd ed => ?_
  subst ed
  cases dd with
  | tup q r => exact ⟨_, "tuple", rfl, .tup (hid_some.mp q).2, k _ H1 _ kp e1 (.bl true) rfl⟩
/-- a key of ints in the dict of such keys -/
theorem inl_inj {a b : List Int} (e : (a.map Sum.inl : List Key) = b.map Sum.inl) : a = b := (List.map_inj_right fun _ _ q => Sum.inl.inj q).mp e
theorem int_inj {a b : List Int} (e : a.map PyData.int = b.map PyData.int) : a = b := (List.map_inj_right fun _ _ q => PyData.int.inj q).mp e
theorem dTd_inj {a b : List (List Int)} (e : dTd a = dTd b) : a = b := by
  have e1 := (List.cons.inj (PyData.dict.inj e)).2
  refine (List.map_inj_right fun x y q => ?_).mp e1
  exact int_inj (PyData.tuple.inj (Prod.mk.inj q).1)
theorem dKd_inj {a b : List (Int × Int)} (e : dKd a = dKd b) : a = b := by
  have e1 := (List.cons.inj (PyData.dict.inj e)).2
  refine (List.map_inj_right fun x y q => ?_).mp e1
  obtain ⟨q1, q2⟩ := Prod.mk.inj q
  exact Prod.ext (PyData.int.inj q1) (PyData.int.inj q2)
theorem dKT {a : List (Int × Int)} {b : List (List Int)} (e : dKd a = dTd b) : False := by
  have := (Prod.mk.inj (List.cons.inj (PyData.dict.inj e)).1).1
  cases this
theorem Da.isT {H : Hp} {v : V} {ks : List (List Int)} (d : Da H v (dTd ks)) : ∃ a, v = .ref a ∧ H a = some (.dT (ks.map fun k => (k.map Sum.inl, V.bl true))) := by
  generalize e : dTd ks = y at d
  cases d with
  | dT ks' q => rw [dTd_inj e]; exact ⟨_, rfl, q⟩
  | dK kvs q => exact (dKT e.symm).elim
  | _ => cases e
theorem Da.isK {H : Hp} {v : V} {ks : List (Int × Int)} (d : Da H v (dKd ks)) : ∃ a, v = .ref a ∧ H a = some (.dK (ks.map fun p => (Sum.inl p.1, V.int p.2))) := by
  generalize e : dKd ks = y at d
  cases d with
  | dK ks' q => rw [dKd_inj e]; exact ⟨_, rfl, q⟩
  | dT kvs q => exact (dKT e).elim
  | _ => cases e
theorem valV_bl {ks : List (List Int)} {k : List Int} : (valV (ks.map fun k => (k.map Sum.inl, V.bl true) : List (List Key × V)) (k.map Sum.inl)).isSome = decide (k ∈ ks) := by
  induction ks with
  | nil => rfl
  | cons y ks ih =>
    unfold valV at ih ⊢
    rw [List.map_cons, List.find?_cons]
    by_cases hk : y = k
    · subst hk
      simp
    · have : ¬ (y.map Sum.inl : List Key) = k.map Sum.inl := fun z => hk (inl_inj z)
      simp only [this, decide_false]
      rw [ih]
      have hk' : ¬ k = y := fun z => hk z.symm
      simp [hk']
theorem map_kV {k : List Int} : (k.map Sum.inl : List Key).map kV = k.map V.int := by rw [List.map_map]; rfl
theorem dc_inT {ks : List (List Int)} {k : List Int} (hu : X.A.units + 1 < cLine) (ha : DE X B h a ss (.tuple (k.map .int))) (hb : DE X B h b ss (dTd ks)) : DC X B h .In a b ss (decide (k ∈ ks)) := fun σ H Q en kk pins s I => by
  refine (pc_din hu pe_w pe_w).run pins s σ H Q I ?_
  refine ha σ H _ en fun va H1 da k1 e1 da' ea => ?_
  subst ea
  refine hb σ H1 _ e1 fun vb H2 db k2 e2 db' eb => ?_
  subst eb
  obtain ⟨d, rfl, hd⟩ := db'.isT
  cases da'.mono (e1.up k2) with
  | tup q r =>
    have hq := (hid_some.mp q).2
    rw [r.ints] at hq
    refine ⟨_, _, rfl, DGet.t (k := k.map Sum.inl) (hid_some.mp hd).2 (by rw [map_kV]; exact hq), ?_⟩
    rw [valV_bl]
    exact kk _ H2 (k1.trans k2) e2 rfl
/-- d[i], d a dict of ints -/
theorem de_dget {kvs : List (Int × Int)} {v : Int} (hu : X.A.units + 1 < cLine) (ha : DE X B h a ss (dKd kvs)) (hb : DE X B h b ss (.int i)) (hv : valV (kvs.map fun p => (Sum.inl p.1, V.int p.2) : List (Key × V)) (Sum.inl i) = some (.int v)) (hs : NoSl b := by exact fun _ _ => rfl) :
    DE X B h (.Subscript a b pos) ss (.int v) := fun σ H Q en k => by
  refine wE_of (pe_dget hu pe_w pe_w hs) (ha σ H _ en fun va H1 da k1 e1 da' ea => ?_)
  subst ea
  refine hb σ H1 _ e1 fun vb H2 db k2 e2 db' eb => ?_
  subst eb
  obtain ⟨d, rfl, hd⟩ := (da'.mono (e1.up k2)).isK
  cases db'
  refine ⟨d, .int v, rfl, ?_, k _ H2 _ (k1.trans k2) e2 (.int v) rfl⟩
  rw [← hv]
  exact DGet.k (k := Sum.inl i) (hid_some.mp hd).2
end
end F26

/-! sorted of lists, tuples, dicts with tuple keys, with a key or not -/
namespace F26
open PySem PySem.Spec L2

section
variable {prog : Program} {w : World} {A : Around} {E : Value → Shared → Prop} {s : Shared}
/-- the items of a tuple, collected -/
theorem coll_tup {l : Addr} {o : Obj} {its : Array Value} {n : Nat} {Q : List Value → Shared → Prop} (ho : s.heap.get? l = some o) (hc : o.cls = .type "tuple") (hd : o.data = .seq its n) (hz : its.size ≤ sizeLine)
    (k : ∀ (g : Heap) (tk : Nat), (∀ b u, s.heap.get? b = some u → g.get? b = some u) → Q its.toList { s with heap := g, toks := tk }) : wpAny (model prog w) A (collect (.ref l)) Q E s := by
  unfold collect
  refine wpAny_bind (wpAny_runValue (codeAny_builtin PyProof.Rows.entry_proto_collect' ?_))
  rw [Around.under_plainId PySem.F.plain_proto_collect _]
  show wpAny _ A.in1 (newList [] >>= fun m => again (.builtin "list.__iadd__" ⟨[m, .ref l], []⟩)) _ _ s
  refine wpAny_bind (wpAny_newObj_type ?_)
  refine wpAny_pure ⟨plainId_quiet PySem.F.plain_list_iadd _, codeAny_builtin PyProof.Rows.entry_list_iadd' ?_⟩
  rw [Around.under_plainId PySem.F.plain_list_iadd _]
  have e1 : (s.heap.push { cls := .type "list", data := .seq ([] : List Value).toArray }).get? s.heap.objs.size = some { cls := .type "list", data := .seq #[] 0 } := Heap.get?_push_size _ rfl
  show wpAny _ A.in1 (Builtin.List.listExtendWith (.ref s.heap.objs.size) (.ref l) (.ref s.heap.objs.size)) _ _ _
  have e2 := PyProof.Rows.get?_update_seq e1 (· ++ its)
  have last : wpAny (model prog w) A (do
      let ob ← load s.heap.objs.size
      match ob.data with
      | .seq xs _ => pure xs.toList
      | _ => unsupported "internal:collect") Q E { s with heap := (s.heap.push { cls := .type "list", data := .seq ([] : List Value).toArray }).update s.heap.objs.size (Obj.mapSeq (· ++ its)) } := by
    refine wpAny_bind (wpAny_load e2 ?_)
    refine wpAny_pure ?_
    rw [show ((#[] : Array Value) ++ its).toList = its.toList by simp]
    refine k _ _ fun b u q => ?_
    rw [Heap.get?_update_ne _ _ _ _ (Nat.ne_of_lt (Heap.lt_size q))]
    exact Heap.get?_push_of_some _ q
  refine wpAny_mono (wpAny_extend_seq (s := { s with heap := s.heap.push { cls := .type "list", data := .seq ([] : List Value).toArray } })
    (R := fun r s' => r = .ok (.ret (.ref s.heap.objs.size)) ∧ s' = { s with heap := (s.heap.push { cls := .type "list", data := .seq ([] : List Value).toArray }).update s.heap.objs.size (Obj.mapSeq (· ++ its)) })
    s.heap.objs.size l (.ref s.heap.objs.size) 0 (.inr rfl) e1 (Heap.get?_push_of_some _ ho) hc hd ⟨rfl, rfl⟩ hz) (fun fin s' q => ?_) fun e s' q => by cases q.1
  cases fin with
  | again c =>
    refine ⟨q.1, codeAny_mono q.2 fun r s2 ⟨e3, e4⟩ => ?_⟩
    subst e3 e4
    exact last
  | done f =>
    obtain ⟨q1, rfl⟩ := q
    cases q1
    exact last
/-- sorted(x, ..) once x's items are collected -/
theorem sorted_coll {src : Value} {vs : List Value} {kw : List (Str × Value)} {Q : Value → Shared → Prop}
    (hcol : ∀ (R : List Value → Shared → Prop), (∀ (g : Heap) (tk : Nat), (∀ b u, s.heap.get? b = some u → g.get? b = some u) → R vs { s with heap := g, toks := tk }) → wpAny (model prog w) A.in1 (collect src) R E s)
    (hz : vs.length ≤ sizeLine) (a1 : PySem.argsOk "sorted" ⟨[src], kw⟩) (a2 : ∀ x, PySem.argsOk "list.sort" ⟨[.ref x], kw⟩)
    (body : ∀ (g : Heap) (tk : Nat), (∀ b u, s.heap.get? b = some u → g.get? b = some u) → ∀ E' : Value → Shared → Prop,
      wpAny (model prog w) A.in1.in1 (Builtin.«list.sort» ⟨[.ref g.objs.size], kw⟩) (fun f s' => f = .done (.ret .none) ∧ Q (.ref g.objs.size) s') E' { s with heap := g.push (PyProof.Rows.seqObj "list" vs.toArray 0), toks := tk }) :
    wpAny (model prog w) A (call (.builtin "sorted") [src] kw) Q E s := by
  refine PyProof.Rows.call_function_entry_kw PyProof.Rows.kind_sorted PyProof.Rows.plain_sorted PyProof.Rows.entry_sorted a1 ?_
  unfold Builtin.«sorted»
  refine wpAny_bind (m := checkCount "sorted" 1 1 _) (wpAny_pure ?_)
  refine wpAny_bind (hcol _ fun g tk kp => ?_)
  refine wpAny_bind (wpAny_newList ?_ hz)
  refine wpAny_bind (wpAny_holding (PyProof.Rows.wpAny_call_entry_kw PyProof.Rows.slot_list_sort ⟨_, Heap.get?_push_size g rfl, rfl⟩ PyProof.Rows.entry_list_sort ?_ (a2 _)))
  refine wpAny_mono (body g tk kp _) (fun f s' hf => ?_) fun _ _ e => e
  obtain ⟨rfl, hq⟩ := hf
  exact ⟨_, rfl, wpAny_pure ⟨_, rfl, hq⟩⟩
end

/-! ### what is sorted -/
/-- the data that a walk of x gives -/
def SrcD (x : PyData) (ds : List PyData) : Prop := isSq ds x ∨ ∃ ks : List (List Int), x = dTd ks ∧ ds = ks.map fun k => .tuple (k.map .int)
abbrev EachI := @PySem.W.EachIs
section
variable {X : Cx} {pins : List (Addr × Obj)} {σ : L2.St} {H : Hp} {s : Shared}
theorem each_of {K : PySem.W.Frag} : ∀ {xs : List V} {us : List Value} {ds : List PyData}, Vals xs us → DaL H xs ds → PySem.W.EachIs (fun u d => ∃ v, RelV v u ∧ Da H v d) us ds
  | _, _, _, .nil, .nil => .nil
  | _, _, _, .cons r rs, .cons d dd => .cons ⟨_, r, d⟩ (each_of (K := K) rs dd)
theorem each_back : ∀ {us : List Value} {ds : List PyData}, PySem.W.EachIs (fun u d => ∃ v, RelV v u ∧ Da H v d) us ds → ∃ xs : List V, Vals xs us ∧ DaL H xs ds
  | _, _, .nil => ⟨[], .nil, .nil⟩
  | _, _, .cons ⟨v, r, d⟩ t => by
    obtain ⟨xs, h1, h2⟩ := each_back t
    exact ⟨v :: xs, .cons r h1, .cons d h2⟩
theorem each_read {h : List Addr} (I : Inv X pins σ H s) : ∀ {us : List Value} {ds : List PyData}, PyData.canLayAll0 ds = true → PySem.W.EachIs (fun u d => ∃ v, RelV v u ∧ Da (hid h H) v d) us ds → PySem.W.EachIs (fun u d => ∃ as, Reads s.heap u d as) us ds
  | _, _, _, .nil => .nil
  | _, _, c, .cons ⟨v, r, d⟩ t => by
    simp only [PyData.canLayAll0, Bool.and_eq_true] at c
    exact .cons (Dp.reads I _ v _ ((d.mono hid_sub).dp c.1) r) (each_read I c.2 t)
/-- the walked thing's values, and how they are collected -/
theorem src_coll {h : List Addr} (I : Inv X pins σ H s) (dom : ∀ q ∈ h, IsL H q) (hh : X.A.handled = none) {v : V} {u : Value} {x : PyData} {ds : List PyData} (rv : RelV v u) (dx : Da (hid h H) v x) (sq : SrcD x ds) (hz : ds.length ≤ 1000) :
    ∃ (a : Addr) (vs : List Value) (xs : List V), u = .ref a ∧ Vals xs vs ∧ DaL (hid h H) xs ds ∧ ∀ (A : Around) (E : Value → Shared → Prop) (R : List Value → Shared → Prop), A.handled = none →
      (∀ (g : Heap) (tk : Nat), (∀ b o, s.heap.get? b = some o → g.get? b = some o) → R vs { s with heap := g, toks := tk }) → wpAny (model X.prog X.w) A (collect u) R E s := by
  rcases sq with (sq | sq) | ⟨ks, sq, ed⟩
  · subst sq
    cases dx with
    | lst q r =>
      cases rv
      obtain ⟨its, rs, ⟨o, n, ho, hc, _, hd⟩, hl⟩ := I.list (SqL.of (hid_some.mp q).2)
      refine ⟨_, its, _, rfl, rs, r, fun A E R _ k => ?_⟩
      refine PyProof.Rows.collect_list ⟨o, ho, hc, n, hd⟩ (k _ s.toks fun b ob e => ?_) (by rw [← rs.length, r.length]; exact small_sz hz)
      rw [Heap.get?_update_ne _ _ _ _ (Nat.ne_of_lt (Heap.lt_size e))]
      exact Heap.get?_push_of_some _ e
  · subst sq
    cases dx with
    | tup q r =>
      cases rv
      obtain ⟨its, rs, ⟨o, ho, hc, n, hd⟩, hl⟩ := I.tuple (SqT.of (hid_some.mp q).2)
      exact ⟨_, its, _, rfl, rs, r, fun A E R _ k => coll_tup ho hc hd (by rw [List.size_toArray, ← rs.length, r.length]; exact small_sz hz) k⟩
  · subst sq ed
    obtain ⟨a, rfl, q⟩ := dx.isT
    cases rv
    obtain ⟨z, hs, kk, pr, o, es, ep, ho, hx, hdt, he, hn⟩ := (show ObjOk X.prog X.w H s.heap a (.dT (ks.map fun k => (k.map Sum.inl, V.bl true))) from I.hok a _ (hid_some.mp q).2)
    have lk : ks.length = kk.length := by
      have := pr.length
      rwa [List.length_map] at this
    have dd : ∀ (ks : List (List Int)) (kk : List (List Key × Addr × Value)), Paired (fun (p : List Key × V) (q : List Key × Addr × Value) => p.1 = q.1 ∧ H q.2.1 = some (.tup (p.1.map kV)) ∧ RelV p.2 q.2.2) (ks.map fun k => (k.map Sum.inl, V.bl true)) kk →
        DaL (hid h H) (kk.map fun q => V.ref q.2.1) (ks.map fun k => .tuple (k.map .int)) := fun ks => by
      induction ks with
      | nil =>
        intro kk pr
        cases pr
        exact .nil
      | cons k ks ih =>
        intro kk pr
        cases pr with
        | cons h1 h2 =>
          refine .cons (.tup (hid_some.mpr ⟨fun z => ?_, h1.2.1⟩) ?_) (ih _ h2)
          · obtain ⟨zs, ez⟩ := dom _ z
            rw [ez] at h1
            cases h1.2.1
          show DaL (hid h H) ((k.map Sum.inl).map kV) _
          rw [map_kV]
          exact .of_ints k
    have vv : ∀ kk : List (List Key × Addr × Value), Vals (kk.map fun q => V.ref q.2.1) (kk.map fun q => Value.ref q.2.1) := fun kk => by
      induction kk with
      | nil => exact .nil
      | cons k kk ih => exact .cons rfl ih
    refine ⟨a, kk.map fun q => Value.ref q.2.1, kk.map fun q => V.ref q.2.1, rfl, vv kk, dd ks kk pr, fun A E R hA k => ?_⟩
    have sz : es.size = kk.length := by
      have := congrArg List.length he
      rwa [List.length_map, Array.length_toList] at this
    refine PySem.W.kdu_collect (kdl_raw hs hx hdt) hA ho (by rw [sz, ← lk]; rw [List.length_map] at hz; exact small_sz hz) fun g tk acc kp it => ?_
    have ea : acc.toList = kk.map fun q => Value.ref q.2.1 := by
      apply List.ext_getElem?
      intro j
      rw [List.getElem?_map]
      cases hj : acc.toList[j]? with
      | none =>
        have h1 := List.getElem?_eq_none_iff.mp hj
        rw [Array.length_toList, it.1, sz] at h1
        rw [List.getElem?_eq_none h1]
        rfl
      | some y =>
        obtain ⟨en, hen, hv⟩ := it.2 j y (by rw [← Array.getElem?_toList]; exact hj)
        have h2 : (kk.map (entryOfKey (tupleKind (mixKind X.prog X.w))))[j]? = some en := by rw [← he, Array.getElem?_toList]; exact hen
        rw [List.getElem?_map] at h2
        cases hb : kk[j]? with
        | none => rw [hb] at h2; cases h2
        | some b =>
          rw [hb] at h2
          have h3 : entryOfKey (tupleKind (mixKind X.prog X.w)) b = en := Option.some.inj h2
          rw [hv, ← h3]
          rfl
    rw [ea]
    exact k g tk kp
end
/-! sorted(x), by the data -/
def leD (a b : PyData) : Bool := PySem.W.dataLe false (fun d : PyData => d) a b
/-- what a sort asks of the items' keys -/
structure Sbl (ks : List PyData) : Prop where
  al : PySem.W.AllAlike ks
  so : PySem.W.Sortable ks
  dp : ∀ d ∈ ks, d.depth ≤ 40
def rSortS : List V → Hp → VK → Prop := fun vs H Q => ∃ (h : List Addr) (v : V) (x : PyData) (ds : List PyData), (∀ q ∈ h, IsL H q) ∧ vs = [v] ∧ Da (hid h H) v x ∧ SrcD x ds ∧ Sbl ds ∧ PyData.canLayAll0 ds = true ∧ ds.length ≤ 1000 ∧
  ∀ p xs, H p = none → DaL (hid h H) xs (ds.mergeSort leD) → Q (.ref p) (upd H p (.lst xs))
theorem cr_sortS {X : Cx} (hc : X.calm = true) (hu : X.A.units + 64 < cLine) : CallR X (.builtin "sorted") rSortS := by
  intro pins s σ H vs us Q I rs hyp
  obtain ⟨h, v, x, ds, dom, rfl, dx, sq, sb, cl, hz, k⟩ := hyp
  cases rs with
  | cons rv rr =>
    cases rr
    rename_i u
    have hh := I.ok.hd hc
    obtain ⟨a, its, xs, rfl, rxs, dxs, col⟩ := src_coll I dom hh rv dx sq hz
    have lz : its.length ≤ sizeLine := by rw [← rxs.length, dxs.length]; exact small_sz hz
    show wpAny _ _ (call (.builtin "sorted") [.ref a] []) _ _ _
    refine sorted_coll (vs := its) (fun R k => col X.A.in1 X.xe R hh k) lz (PyProof.Rows.args_sorted1 _) (fun _ => PyProof.Rows.args_list_sort _) fun g tk kp E' => ?_
    have eR : PySem.W.EachIs (fun u d => ∃ v, RelV v u ∧ Da (hid h H) v d) its ds := each_of (K := X.K) rxs dxs
    have I1 : Inv X pins σ H { s with heap := g, toks := tk } := I.kept kp
    have e0 : PySem.W.EachIs (fun u d => ∃ as, Reads g u d as) its ds := each_read I1 cl eR
    have ho : (g.push (PyProof.Rows.seqObj "list" its.toArray 0)).get? g.objs.size = some (PyProof.Rows.seqObj "list" its.toArray 0) := Heap.get?_push_size _ rfl
    have old : ∀ b o, g.get? b = some o → (PySem.W.sortingHeap (g.push (PyProof.Rows.seqObj "list" its.toArray 0)) g.objs.size its).get? b = some o := fun b o e =>
      PySem.W.sortingHeap_old (Nat.ne_of_lt (Heap.lt_size e)) (Heap.get?_push_of_some _ e)
    have e1 : PySem.W.EachIs (fun u d => ∃ as, Reads (PySem.W.sortingHeap (g.push (PyProof.Rows.seqObj "list" its.toArray 0)) g.objs.size its) u d as) its ds := e0.mono fun _ _ ⟨as, r⟩ => ⟨as, PyProof.Rows.Reads.keeps old r⟩
    have em : ds.map (fun d => d) = ds := List.map_id' ds
    refine PySem.W.list_sort_vals (s := { s with heap := g.push (PyProof.Rows.seqObj "list" its.toArray 0), toks := tk }) ho
      (PySem.W.SortsAt.data (s := { s with heap := PySem.W.sortingHeap (g.push (PyProof.Rows.seqObj "list" its.toArray 0)) g.objs.size its, toks := tk }) (ds := ds.map fun d => d) (by rw [em]; exact e1) (by rw [em]; exact sb.al) (by rw [em]; exact sb.so) fun d hd => ?_) lz ⟨rfl, ?_⟩
    · rw [em] at hd
      have := sb.dp d hd
      show X.A.units + 1 + 1 + d.depth < cLine
      omega
    · have eo := PySem.W.sortVals_data (h' := PySem.W.sortingHeap (g.push (PyProof.Rows.seqObj "list" its.toArray 0)) g.objs.size its) (enc := fun d => d) false eR e1 (by rw [em]; exact sb.al)
      obtain ⟨ys, ry, dy⟩ := each_back eo
      obtain ⟨ep, hat⟩ := PyProof.Rows.sortedHeap_at (out := (PySem.W.sortVals (PySem.W.dataKind (PySem.W.sortingHeap (g.push (PyProof.Rows.seqObj "list" its.toArray 0)) g.objs.size its) (ds.map fun d => d)) false its its).toArray) ho
      have lo : ys.length ≤ sizeLine := by
        rw [dy.length, List.length_mergeSort]
        exact small_sz hz
      refine ⟨.ref g.objs.size, upd H g.objs.size (.lst ys), I1.laid (t' := tk) (fun b o e => ?_) (Nat.le_refl _) ⟨lo, _, ep, ry, hat⟩, rfl, k _ _ (I1.hok.fresh (Nat.le_refl _)) dy⟩
      have hb : b < g.objs.size := Heap.lt_size e
      show (PyProof.Rows.sortedHeap _ _ _ _).get? b = some o
      rw [PyProof.Rows.sortedHeap_old (Nat.ne_of_lt hb) (by rw [Heap.size_push]; exact Nat.lt_succ_of_lt hb)]
      exact Heap.get?_push_of_some _ e
end F26

/-! sorted by a key that a def of the module gives: (len(x), x) -/
namespace F26
open PySem PySem.Spec L2

section
variable {prog : Program} {w : World} {A : Around} {E : Value → Shared → Prop} {s : Shared} {K : PySem.W.Frag} {mg : Str → Option Value} {base : Heap} {x qual nm : Str} {st : Stmt} {f a : Addr} {fd : FuncData} {p1 p2 p3 p4 p5 p6 : Pos} {kk}
/-- def f(x): return (len(x), x), of a tuple: nothing that stood is changed -/
theorem rank_pure (F : Fun K nm qual st f fd) (M : Mod K mg base) (kb : ∀ b o, base.get? b = some o → s.heap.get? b = some o) (hb : defBody st = [.Return (some (.Tuple [.Call (.Name "len" p1) [.Name x p2] [] p3, .Name x p4] kk p5)) p6])
    (sk : (defScope st).kind = .function) (sco : (defScope st).isCoroutine = false) (sge : (defScope st).isGenerator = false) (sx : (defScope st).names.lookup x = some .local) (sl : (defScope st).names.lookup (PySem.Str.ofString "len") = some .globalImplicit)
    (hx : (x == ("__debug__" : Str)) = false) (hbd : Binds K fd [x] []) (ml : mg "len" = none) (hr : Room 1 A) {its : Array Value} {ds : List PyData} (ht : PyProof.Rows.IsTup s.heap a its) (rd : Reads s.heap (.ref a) (.tuple ds) []) (hz : its.size ≤ sizeLine) (hl : its.size = ds.length) :
    wpAny (model prog w) A (call (.ref f) [.ref a]) (PySem.W.KeyPure (.tuple [.int (ds.length : Nat), .tuple ds]) s) (fun _ _ => False) s := by
  obtain ⟨oc, od, kV, doc, pm, an, cdv, ct, osl, rfl, lk, hcd⟩ := F.ex
  have KX : K.In s.heap := M.kin.keeps kb
  have lim : s.heap.NoLimit := M.nolimit.keeps kb
  have hbind := hbd s [.ref a] KX rfl
  refine wpAny_call (Att.call_fn (binds := [(x, Value.ref a)]) KX lim lk hcd hr.depth hbind (by simp [sx]) (fun s1 IC => ?_) sco sge sk)
  obtain ⟨h1, tk1, rfl⟩ := IC.toInCall.same
  have k1 : ∀ b o, s.heap.get? b = some o → h1.get? b = some o := IC.toInCall.keep
  have hn := IC.toInCall.ns
  rw [hb]
  have ek : (PyProof.Rows.envOfC qual (defScope st) s.heap.objs.size f cdv).kindOf x = some .local := sx
  have el : (PyProof.Rows.envOfC qual (defScope st) s.heap.objs.size f cdv).kindOf (PySem.Str.ofString "len") = some .globalImplicit := sl
  have eb : bindL (PyProof.Rows.envOfC qual (defScope st) s.heap.objs.size f cdv).kindOf [(x, Value.ref a)] (fun _ => none) x = some (.ref a) := by
    unfold bindL
    simp [ek, bindL]
  have ldx : ∀ (g : Heap) (t : Nat) (q : Pos) (Q : Value → Shared → Prop) (E : Value → Shared → Prop), g.Ns s.heap.objs.size (bindL (PyProof.Rows.envOfC qual (defScope st) s.heap.objs.size f cdv).kindOf [(x, Value.ref a)] fun _ => none) → Q (.ref a) { s with heap := g, toks := t } →
      wpAny (model prog w) (A.deeper (PyProof.Rows.envOfC qual (defScope st) s.heap.objs.size f cdv)) (eval (.Name x q) (PyProof.Rows.envOfC qual (defScope st) s.heap.objs.size f cdv)) Q E { s with heap := g, toks := t } := fun g t q Q E n k =>
    wpAny_Name (wpAny_loadName_local (s := { s with heap := g, toks := t }) sk ek n eb k) hx
  refine wpAny_execs_cons (wpAny_Return_some (wpAny_Tuple_spliced ?_))
  refine PyProof.Rows.args_cons (wpAny_Call_Name_kw ?_) rfl
  obtain ⟨mb, b1, b2⟩ := M.blt
  refine Calls.Name_function_global sk el (Calls.loadGlobal_builtin (M.glob.keeps fun b o e => k1 b o (kb b o e)) ml (b1.keeps fun b o e => k1 b o (kb b o e)) ((b2 _ (by decide)).trans PySem.boot_len) ?_) (by decide)
  refine PyProof.Rows.callWith_builtin1 (PyProof.Rows.args_cons (ldx h1 tk1 _ _ _ hn (PyProof.Rows.args_nil ?_)) rfl) rfl rfl
  obtain ⟨o, ho, hc, n, hd⟩ := ht
  refine PyProof.Rows.len_tuple ⟨o, k1 _ _ ho, hc, n, hd⟩ (by have := sizeLine_eq; omega) ?_
  refine PyProof.Rows.args_cons (ldx h1 _ _ _ _ hn (PyProof.Rows.args_nil ⟨by show 2 ≤ sizeLine; decide, ?_⟩)) rfl
  refine ⟨_, _, rfl, fun b ob e => Heap.get?_push_of_some _ (k1 b ob e), ?_⟩
  rw [hl]
  exact Reads.tuple (as := []) (Heap.get?_push_size _ rfl) rfl rfl (ReadsAll.cons (as := []) (bs := []) (Reads.int _ _) (ReadsAll.cons (as := []) (bs := []) (PyProof.Rows.Reads.keeps (fun b ob e => Heap.get?_push_of_some _ (k1 b ob e)) rd) ReadsAll.nil))
end
end F26

/-! sorted with key=, dicts made, sets, repr -/
namespace F26
open PySem PySem.Spec L2

/-- a tuple of ints; a tuple, a list of such; a list of ints -/
def tI (k : List Int) : PyData := .tuple (k.map .int)
def lI (k : List Int) : PyData := .list (k.map .int)
def tTs (ks : List (List Int)) : PyData := .tuple (ks.map tI)
def lTs (ks : List (List Int)) : PyData := .list (ks.map tI)
/-- the orders that sorted goes by -/
def leT (a b : List Int) : Bool := PySem.W.dataLe false tI a b
def rankD (k : List Int) : PyData := .tuple [.int (k.length : Nat), tI k]
def leR (a b : List Int) : Bool := PySem.W.dataLe false rankD a b

/-- a def of the module that gives (len(x), x), as a key -/
def KeyCl (P : Program) (w : World) (K : PySem.W.Frag) (mg : Str → Option Value) (base : Heap) (x : Str) (f : Addr) : Prop :=
  mg x = some (.ref f) ∧ ∀ (A : Around) (s : Shared) (a : Addr) (its : Array Value) (ds : List PyData), Mod K mg base → (∀ b o, base.get? b = some o → s.heap.get? b = some o) → Room 1 A → PyProof.Rows.IsTup s.heap a its → Reads s.heap (.ref a) (.tuple ds) [] → its.size ≤ sizeLine → its.size = ds.length →
    wpAny (model P w) A (call (.ref f) [.ref a]) (PySem.W.KeyPure (.tuple [.int (ds.length : Nat), .tuple ds]) s) (fun _ _ => False) s

theorem alike_ints : ∀ (a b : List Int), PySem.W.alikeAll (a.map .int) (b.map .int) = true
  | [], _ => by simp [PySem.W.alikeAll]
  | _ :: _, [] => by simp [PySem.W.alikeAll]
  | x :: a, y :: b => by
    simp only [List.map_cons, PySem.W.alikeAll, PySem.W.alike, Bool.true_and]
    exact alike_ints a b
theorem alike_tI (a b : List Int) : PySem.W.alike (tI a) (tI b) = true := by
  simp only [tI, PySem.W.alike]
  exact alike_ints a b
theorem alike_rank (a b : List Int) : PySem.W.alike (rankD a) (rankD b) = true := by
  simp only [rankD, PySem.W.alike, PySem.W.alikeAll, alike_tI, Bool.true_and]
theorem depth_ints : ∀ (a : List Int), PyData.depthAll (a.map .int) ≤ 1
  | [] => by simp [PyData.depthAll]
  | x :: a => by
    have := depth_ints a
    simp only [List.map_cons, PyData.depthAll, PyData.depth]
    omega
theorem depth_tI (a : List Int) : (tI a).depth ≤ 2 := by
  have := depth_ints a
  simp only [tI, PyData.depth]
  omega
theorem depth_rank (a : List Int) : (rankD a).depth ≤ 4 := by
  have := depth_tI a
  simp only [rankD, PyData.depth, PyData.depthAll]
  omega
theorem lay_ints : ∀ (a : List Int), PyData.canLayAll0 (a.map .int) = true
  | [] => by simp [PyData.canLayAll0]
  | x :: a => by
    simp only [List.map_cons, PyData.canLayAll0, PyData.canLay0, Bool.true_and]
    exact lay_ints a
theorem lay_tI (a : List Int) : (tI a).canLay0 = true := by
  simp only [tI, PyData.canLay0]
  exact lay_ints a
theorem lay_tIs : ∀ (ks : List (List Int)), PyData.canLayAll0 (ks.map tI) = true
  | [] => by simp [PyData.canLayAll0]
  | x :: a => by
    simp only [List.map_cons, PyData.canLayAll0, lay_tI, Bool.true_and]
    exact lay_tIs a
theorem reads_ints {h : Heap} : ∀ {ns : List Int} {us : List Value}, Vals (ns.map V.int) us → ReadsAll h us (ns.map .int) []
  | [], _, .nil => .nil
  | n :: ns, _, .cons r rs => by
    obtain ⟨t, rfl⟩ := r
    exact ReadsAll.cons (as := []) (bs := []) (Reads.int _ _) (reads_ints rs)
def rSortK (f : Addr) : List V → List V → Hp → VK → Prop := fun vs zs H Q => ∃ (h : List Addr) (v : V) (ks : List (List Int)), (∀ q ∈ h, IsL H q) ∧ vs = [v] ∧ zs = [.ref f] ∧ Da (hid h H) v (lTs ks) ∧ ks.length ≤ 1000 ∧ (∀ k ∈ ks, k.length ≤ 1000) ∧
  ∀ p ys, H p = none → DaL (hid h H) ys ((ks.mergeSort leR).map tI) → Q (.ref p) (upd H p (.lst ys))
theorem cr_sortK {X : Cx} {x : Str} {f : Addr} (kc : KeyCl X.prog X.w X.K X.mg X.base x f) (hr : Room 3 X.A) : CallRK X (.builtin "sorted") [PySem.Str.ofString "key"] (rSortK f) := by
  intro pins s σ H vs zs us ws Q I rs rz hyp
  obtain ⟨h, v, ks, dom, rfl, rfl, dxs, hz, hkz, k⟩ := hyp
  cases rs with
  | cons rv rr =>
    cases rr
    cases rz with
    | cons rvf rr =>
      cases rr
      cases rvf
      obtain ⟨a, its, xs', rfl, rxs, dxs', col⟩ := src_coll I dom hr.hd rv dxs (.inl isq_l) (by rw [List.length_map]; exact hz)
      have lz : its.length = ks.length := by rw [← rxs.length, dxs'.length, List.length_map]
      show wpAny _ _ (call (.builtin "sorted") [.ref a] [(PySem.Str.ofString "key", .ref f)]) _ _ _
      refine sorted_coll (vs := its) (fun R k => col X.A.in1 X.xe R hr.hd k) (by rw [lz]; exact small_sz hz) (PyProof.Rows.ksk_s1 _ _) (fun _ => PyProof.Rows.ksk_l1 _ _) fun g tk kp E' => ?_
      have I1 : Inv X pins σ H { s with heap := g, toks := tk } := I.kept kp
      rw [PyProof.Rows.ksk_t1]
      have eR : PySem.W.EachIs (fun u k => ∃ v, RelV v u ∧ Da (hid h H) v (tI k)) its ks := by
        have : ∀ {ks : List (List Int)} {us : List Value} {xs : List V}, Vals xs us → DaL (hid h H) xs (ks.map tI) → PySem.W.EachIs (fun u k => ∃ v, RelV v u ∧ Da (hid h H) v (tI k)) us ks := by
          intro ks
          induction ks with
          | nil =>
            intro us xs r d
            cases d
            cases r
            exact .nil
          | cons k ks ih =>
            intro us xs r d
            cases d with
            | cons d1 d2 =>
              cases r with
              | cons r1 r2 => exact .cons ⟨_, r1, d1⟩ (ih r2 d2)
        exact this rxs dxs'
      have ho : (g.push (PyProof.Rows.seqObj "list" its.toArray 0)).get? g.objs.size = some (PyProof.Rows.seqObj "list" its.toArray 0) := Heap.get?_push_size _ rfl
      have up : ∀ {h' : Heap}, PySem.W.KeepsBut g.objs.size (g.push (PyProof.Rows.seqObj "list" its.toArray 0)) h' → ∀ b o, g.get? b = some o → h'.get? b = some o := fun kp b o q =>
        kp b o (Nat.ne_of_lt (Heap.lt_size q)) (Heap.get?_push_of_some _ q)
      refine PySem.W.keyH_tree (b := false) (kz := ks.map rankD) (s := { s with heap := g.push (PyProof.Rows.seqObj "list" its.toArray 0), toks := tk }) ho (by rw [List.length_map, lz]) (by rw [lz]; exact small_sz hz) (PySem.W.AllAlike.of fun _ _ => alike_rank _ _) (PySem.W.Sortable.tuples fun _ => ⟨_, _, rfl⟩) (fun d hd => ?_)
        (PySem.W.keyH_turns (s := { s with heap := g.push (PyProof.Rows.seqObj "list" its.toArray 0), toks := tk }) eR fun v key ⟨w, rw', dw⟩ hm h'' tk' kb => ?_) fun h' tk' out c kb hD ko => ⟨rfl, ?_⟩
      · obtain ⟨key, _, rfl⟩ := List.mem_map.mp hd
        have := depth_rank key
        have := hr.un
        show X.A.units + 1 + 1 + _ < cLine
        omega
      · cases dw with
        | tup q r =>
          cases rw'
          have qi := r.ints
          subst qi
          obtain ⟨us, vus, ht, _⟩ := I1.tuple (SqT.of (hid_some.mp q).2)
          have ku := up kb
          obtain ⟨o, ho', hc, n, hd⟩ := ht
          have := kc.2 X.A.in1.in1 { s with heap := h'', toks := tk' } _ us.toArray (key.map .int) I1.ok.mod (fun b o e => ku b o (I1.bs b o e).1) (hr.in1.in1) ⟨o, ku _ _ ho', hc, n, hd⟩ (Reads.tuple (as := []) (ku _ _ ho') hc hd (reads_ints vus)) (by
              rw [List.size_toArray, ← vus.length, List.length_map]
              exact small_sz (hkz key hm)) (by rw [List.size_toArray, ← vus.length, List.length_map, List.length_map])
          rw [List.length_map] at this
          exact this
      · have eo := PySem.W.keyedOut_each rankD ko eR
        have eb : ∃ ys : List V, Vals ys out ∧ DaL (hid h H) ys ((ks.mergeSort leR).map tI) := by
          have : ∀ {ks : List (List Int)} {us : List Value}, PySem.W.EachIs (fun u k => ∃ v, RelV v u ∧ Da (hid h H) v (tI k)) us ks → ∃ ys : List V, Vals ys us ∧ DaL (hid h H) ys (ks.map tI) := by
            intro ks
            induction ks with
            | nil =>
              intro us e
              cases e
              exact ⟨[], .nil, .nil⟩
            | cons k ks ih =>
              intro us e
              cases e with
              | cons e1 e2 =>
                obtain ⟨v, r, d⟩ := e1
                obtain ⟨ys, h1, h2⟩ := ih e2
                exact ⟨v :: ys, .cons r h1, .cons d h2⟩
          exact this eo
        obtain ⟨ys, ry, dy⟩ := eb
        have lo : ys.length ≤ sizeLine := by
          rw [dy.length, List.length_map, List.length_mergeSort]
          exact small_sz hz
        refine ⟨.ref g.objs.size, upd H g.objs.size (.lst ys), I1.laid (t' := tk') (up kb) (Nat.le_refl _) ⟨lo, out, c, ry, hD⟩, rfl, k _ _ (I1.hok.fresh (Nat.le_refl _)) dy⟩
end F26

/-! dict of (tuple, True) pairs -/
namespace F26
open PySem PySem.Spec L2

def addK (acc : List (List Int)) (k : List Int) : List (List Int) := if k ∈ acc then acc else acc ++ [k]
def ddK (ks : List (List Int)) : List (List Int) := ks.foldl addK []
def eT (k : List Int) : List Key × V := (k.map Sum.inl, V.bl true)
def pTD (k : List Int) : PyData := .tuple [tI k, .bool true]
theorem putK_eT (acc : List (List Int)) (k : List Int) : putK (acc.map eT) (k.map Sum.inl) (V.bl true) = (addK acc k).map eT := by
  unfold putK addK
  have ea : ((acc.map eT).any fun kv => decide (kv.1 = (k.map Sum.inl : List Key))) = decide (k ∈ acc) := by
    rw [List.any_map]
    induction acc with
    | nil => rfl
    | cons y acc ih =>
      rw [List.any_cons, ih]
      by_cases h : y = k
      · subst h
        simp [eT]
      · have h1 : ¬ ((y.map Sum.inl : List Key) = k.map Sum.inl) := fun z => h (inl_inj z)
        have h2 : ¬ k = y := fun z => h z.symm
        simp [eT, h1, h2]
  rw [ea]
  by_cases h : k ∈ acc
  · rw [if_pos h]
    simp only [h, decide_true, if_true]
    rw [List.map_map]
    apply List.map_congr_left
    intro y _
    show (if (eT y).1 = _ then ((eT y).1, V.bl true) else eT y) = eT y
    split <;> rfl
  · rw [if_neg h]
    simp only [h, decide_false]
    rw [List.map_append]
    rfl
/-- the pairs' tuples and keys -/
inductive PrT (H : Hp) : List V → List (List Int) → List (Addr × Addr) → Prop
  | nil : PrT H [] [] []
  | cons {p b : Addr} {xs : List V} {k : List Int} {ks : List (List Int)} {ps : List (Addr × Addr)} : H p = some (.tup [.ref b, .bl true]) → H b = some (.tup (k.map V.int)) → PrT H xs ks ps → PrT H (.ref p :: xs) (k :: ks) ((p, b) :: ps)
theorem prt_of {H : Hp} : ∀ {ks : List (List Int)} {xs : List V}, DaL H xs (ks.map pTD) → ∃ ps, PrT H xs ks ps
  | [], _, .nil => ⟨[], .nil⟩
  | k :: ks, _, .cons d dd => by
    obtain ⟨ps, h⟩ := prt_of dd
    unfold pTD at d
    cases d with
    | tup q r =>
      cases r with
      | cons r1 r =>
        cases r with
        | cons r2 r =>
          cases r
          cases r2
          unfold tI at r1
          cases r1 with
          | tup q2 r3 =>
            have := r3.ints
            subst this
            exact ⟨_, .cons q q2 h⟩
theorem PrT.len {H : Hp} {xs : List V} {ks : List (List Int)} {ps : List (Addr × Addr)} (h : PrT H xs ks ps) : ps.length = ks.length := by
  induction h with
  | nil => rfl
  | cons _ _ _ ih => simp [ih]
def psT (ks : List (List Int)) (ps : List (Addr × Addr)) : List (List Key × Addr × Value) := (ks.zip ps).map fun x => (x.1.map Sum.inl, x.2.2, .bool true)
theorem PrT.kt {H : Hp} {xs : List V} {ks : List (List Int)} {ps : List (Addr × Addr)} (h : PrT H xs ks ps) : ∀ {acc : List (List Int)} {ys : List (List Key × Addr × Value)}, KT H (acc.map eT) ys → KT H ((ks.foldl addK acc).map eT) (storedAllH ys (psT ks ps)) := by
  induction h with
  | nil => intro acc ys r; exact r
  | @cons p b xs k ks ps h1 h2 t ih =>
    intro acc ys r
    have hb : H b = some (.tup ((k.map Sum.inl : List Key).map kV)) := by rw [map_kV]; exact h2
    have := r.put (k.map Sum.inl) hb (y := V.bl true) (u := .bool true) rfl
    rw [putK_eT] at this
    exact ih this
theorem PrT.keys {X : Cx} {pins : List (Addr × Obj)} {σ : L2.St} {H : Hp} {s : Shared} (I : Inv X pins σ H s) {xs : List V} {ks : List (List Int)} {ps : List (Addr × Addr)} (h : PrT H xs ks ps) : ∀ h', (∀ b o, s.heap.get? b = some o → h'.get? b = some o) → ∀ x ∈ psT ks ps, (tupleKind (mixKind X.prog X.w)).is h' x.1 x.2.1 := by
  induction h with
  | nil => intro h' _ x hx; cases hx
  | @cons p b xs k ks ps h1 h2 t ih =>
    intro h' kp x hx
    rcases List.mem_cons.mp (show x ∈ (k.map Sum.inl, b, Value.bool true) :: psT ks ps from hx) with z | z
    · subst z
      obtain ⟨o, its, n, ho, hc, hd, hi⟩ := key_of I.hok (show H b = some (.tup ((k.map Sum.inl : List Key).map kV)) by rw [map_kV]; exact h2)
      exact ⟨o, its, n, kp _ _ ho, hc, hd, hi⟩
    · exact ih h' kp x z
theorem PrT.vals {H : Hp} {xs : List V} {ks : List (List Int)} {ps : List (Addr × Addr)} (h : PrT H xs ks ps) : xs = ps.map fun p => V.ref p.1 := by
  induction h with
  | nil => rfl
  | cons _ _ _ ih => rw [ih]; rfl
theorem PrT.at {H : Hp} {xs : List V} {ks : List (List Int)} {ps : List (Addr × Addr)} (h : PrT H xs ks ps) : ∀ (j : Nat) (k : List Key) (b : Addr) (v : Value), (psT ks ps)[j]? = some (k, b, v) → ∃ p, ps[j]? = some (p, b) ∧ H p = some (.tup [.ref b, .bl true]) ∧ v = .bool true := by
  induction h with
  | nil => intro j k b v e; simp [psT] at e
  | @cons p b xs k ks ps h1 h2 t ih =>
    intro j k' b' v e
    have e' : ((k.map Sum.inl, b, Value.bool true) :: psT ks ps)[j]? = some (k', b', v) := e
    cases j with
    | zero =>
      simp only [List.getElem?_cons_zero, Option.some.injEq, Prod.mk.injEq] at e'
      obtain ⟨_, rfl, rfl⟩ := e'
      exact ⟨p, rfl, h1, rfl⟩
    | succ j =>
      obtain ⟨q, g1, g2, g3⟩ := ih j k' b' v (by simpa using e')
      exact ⟨q, by simpa using g1, g2, g3⟩
theorem psT_len {ks : List (List Int)} {ps : List (Addr × Addr)} (e : ps.length = ks.length) : (psT ks ps).length = ks.length := by
  unfold psT
  rw [List.length_map, List.length_zip, e, Nat.min_self]
theorem ddK_len (ks : List (List Int)) : (ddK ks).length ≤ ks.length := by
  have : ∀ (ks acc : List (List Int)), (ks.foldl addK acc).length ≤ acc.length + ks.length := by
    intro ks
    induction ks with
    | nil => intro acc; exact Nat.le_refl _
    | cons k ks ih =>
      intro acc
      have h1 := ih (addK acc k)
      have h2 : (addK acc k).length ≤ acc.length + 1 := by
        unfold addK
        split
        · omega
        · simp
      show (ks.foldl addK (addK acc k)).length ≤ _
      rw [List.length_cons]
      omega
  have := this ks []
  simpa [ddK] using this
def rDictT : List V → Hp → VK → Prop := fun vs H Q => ∃ (a : Addr) (xs : List V) (ks : List (List Int)), vs = [.ref a] ∧ H a = some (.lst xs) ∧ DaL H xs (ks.map pTD) ∧ ks.length ≤ 1000 ∧
  ∀ p, H p = none → Q (.ref p) (upd H p (.dT ((ddK ks).map eT)))
theorem cr_dictT {X : Cx} {k : Nat} (hr : Room k X.A) : CallR X (.type "dict") rDictT := by
  intro pins s σ H vs us Q I rs h
  obtain ⟨a, xs, ks, rfl, hx, dxs, hz, k⟩ := h
  cases rs with
  | cons rv rr =>
    cases rr
    cases rv
    obtain ⟨ps, pt⟩ := prt_of dxs
    obtain ⟨its, rxs, ⟨o, n, ho, hc, hd, hdt⟩, _⟩ := I.list (SqL.of hx)
    have lp := pt.len
    have eis : its = ps.map fun p => Value.ref p.1 := by
      have := pt.vals
      subst this
      have := refs_at (ps := ps.map (·.1)) (us := its) (by rw [List.map_map]; exact rxs)
      rw [this, List.map_map]
      rfl
    subst eis
    have P := PairArg.list (prog := X.prog) (w := X.w) a (ps.map fun p => Value.ref p.1).toArray (fun j => ((ps[j]?).map (·.1)).getD 0) ((psT ks ps).map fun x => (Value.ref x.2.1, x.2.2))
    have lps := psT_len lp
    refine call_dict_pairsH (knd := tupleKind (mixKind X.prog X.w)) (ps := psT ks ps) P hr.hd (show X.A.units + 1 + 1 < cLine by have := hr.un; omega) ⟨⟨o, n, ho, hc, hd, hdt⟩, by rw [List.size_toArray, List.length_map, List.length_map, lps, lp], fun j key v e => ?_⟩
      ⟨by rw [List.length_map], fun i key v e => ?_⟩ (fun h' kp x hx => pt.keys I h' (fun b ob e => kp b ob (Nat.ne_of_lt (Heap.lt_size e)) List.not_mem_nil e) x hx) (by rw [List.length_map, lps]; exact small_sz hz) fun h' tk hd' kp => ?_
    · rw [List.getElem?_map] at e
      cases q : (psT ks ps)[j]? with
      | none => rw [q] at e; cases e
      | some y =>
        rw [q] at e
        simp only [Option.map_some, Option.some.injEq, Prod.mk.injEq] at e
        obtain ⟨e1, e2⟩ := e
        obtain ⟨p, h1, h2, h3⟩ := pt.at j y.1 y.2.1 y.2.2 q
        have hT : ((ps[j]?).map (·.1)).getD 0 = p := by rw [h1]; rfl
        refine ⟨by rw [List.getElem?_toArray, List.getElem?_map, h1]; show some (Value.ref p) = some (.ref (((ps[j]?).map (·.1)).getD 0)); rw [hT], ?_⟩
        show PairAt s.heap (((ps[j]?).map (·.1)).getD 0) key v
        rw [hT]
        obtain ⟨its', r', ⟨ot, ht, hct, nt, hdt'⟩, _⟩ := I.tuple (SqT.of h2)
        obtain ⟨u, y', ei, ru, ry⟩ := vals2 r'
        subst ei
        cases ru
        cases ry
        exact .inl ⟨ot, ht, hct, nt, by rw [hdt', ← e1, ← e2, h3]⟩
    · rw [PairRel, List.getElem?_map] at e
      cases q : (psT ks ps)[i]? with
      | none => rw [q] at e; cases e
      | some y =>
        rw [q] at e
        simp only [Option.map_some, Option.some.injEq, Prod.mk.injEq] at e
        obtain ⟨e1, e2⟩ := e
        exact ⟨y.1, y.2.1, by rw [← e2], e1.symm⟩
    · have hm : (s.heap.objs.size == sysModules) = false := beq_eq_false_iff_ne.mpr (Nat.ne_of_gt I.big)
      have kt : KT H ((ddK ks).map eT) (storedAllH [] (psT ks ps)) := pt.kt (acc := []) .nil
      obtain ⟨oD, es, ep, q1, q2, q3, q4, q5, q6⟩ := hd'
      have fr : H s.heap.objs.size = none := I.hok.fresh (Nat.le_refl _)
      refine ⟨.ref s.heap.objs.size, upd H s.heap.objs.size (.dT ((ddK ks).map eT)), I.laid (t' := tk) (fun b ob e => kp b ob List.not_mem_nil e) (Nat.le_refl _) ?_, rfl, k _ fr⟩
      exact ⟨by rw [List.length_map]; exact small_sz (Nat.le_trans (ddK_len ks) hz), hm, _, kt.keeps fun b ys e => by rw [upd_ne (ne_of_none e fr)]; exact e, oD, es, ep, q1, q2, q3, q4, q6⟩
end F26

/-! the raw rules as judgements -/
namespace F26
open PySem PySem.Spec L2

/-- what repr is asked of -/
structure Shw (d : PyData) : Prop where
  lay : d.canLay0 = true
  sh : d.showable = true
  len : d.shown.length ≤ sizeLine
  dp : d.depth ≤ 40
def rRepr : List V → Hp → VK → Prop := fun vs H Q => ∃ (v : V) (d : PyData), vs = [v] ∧ Da H v d ∧ Shw d ∧ ((∃ x, d = .str x) ∨ (∃ xs, d = .list xs) ∨ ∃ xs, d = .tuple xs) ∧ Q (.str d.shown) H
theorem cr_repr {X : Cx} (hu : X.A.units + 64 < cLine) (hg : X.A.guards = some []) : CallR X (.builtin "repr") rRepr := by
  intro pins s σ H vs us Q I rs h
  obtain ⟨v, d, rfl, dd, sw, cs, q⟩ := h
  cases rs with
  | cons rv rr =>
    cases rr
    have dp := dd.dp (K := X.K) sw.lay
    obtain ⟨as, rd⟩ := Dp.reads I _ _ _ dp rv
    have nd := PyData.hasDict_of_canLay d sw.lay
    have ref : ∀ a u, u = Value.ref a → Reads s.heap u d as → wpAny (model X.prog X.w) X.A (call (.builtin "repr") [u]) (EP X pins σ Q) X.xe s := fun a u e r => by
      subst e
      have := sw.dp
      exact repr_of_reads' r sw.sh (PyData.noDict_hsm nd) hg (by omega) (fun _ _ e => e) (fun h' u tk kp => ⟨.str d.shown, H, I.kept kp, ⟨u, rfl⟩, q⟩) sw.len
    rcases cs with ⟨x, rfl⟩ | ⟨xs, rfl⟩ | ⟨xs, rfl⟩
    · cases dd
      obtain ⟨t, rfl⟩ := rv
      have e : (PyData.str x).shown = PySem.reprText x := by simp only [PyData.shown]
      have sl := sw.len
      rw [e] at q sl
      exact PySem.P.repr_of_str ⟨.str _, H, I.tok _, ⟨_, rfl⟩, q⟩ sl
    · cases dd
      cases rv
      exact ref _ _ rfl rd
    · cases dd
      cases rv
      exact ref _ _ rfl rd

section
variable {X : Cx} {B : Bs} {h : List Addr} {ss : List Sl} {e a b c lo hi : Expr} {es : List Expr} {pos p p2 p3 p4 p5 q : Pos} {R Ra : PyData → Prop} {x y d : PyData} {ds : List PyData} {i j k : Int} {f : Str} {ks : List (List Int)}
/-! ### sorted -/
theorem de_sortK {kf : Str} {fa : Addr} {kp : Pos} (kc : KeyCl X.prog X.w X.K X.mg X.base kf fa) (hr : Room 3 X.A) (hg : Gl X "sorted") (hm : X.mg "sorted" = none) (hgk : Gl X kf) (w : WE X B h e ss fun d => ∃ ks, d = lTs ks ∧ ks.length ≤ 1000 ∧ (∀ k ∈ ks, k.length ≤ 1000) ∧ R (lTs (ks.mergeSort leR)))
    (hd : (kf == ("__debug__" : Str)) = false := by decide) (he : starEach (e :: []) X.env = (false, eval e X.env) :: starEach [] X.env := by rfl) (hpl : (backTo pos (starEach (e :: []) X.env)).any (·.1) = false := by rfl) :
    WE X B h (.Call (.Name "sorted" p) [e] [⟨some (PySem.Str.ofString "key"), .Name kf p2, kp⟩] pos) ss R := fun σ H Q en k => by
  refine wE_of (pe_callBK (cr_sortK kc hr) hg hm (by decide +kernel) (pa_cons pe_w pa_nil he) (pk_cons (pe_glob (v := .ref fa) hgk kc.1 rfl hd) pk_nil) (he := by rw [he]; rfl) (hpl := hpl)) ?_
  refine w σ H _ en fun v H1 d k1 e1 dd ⟨ks, ed, hz, hkz, r⟩ => ?_
  subst ed
  exact ⟨h, v, ks, e1.dom, rfl, rfl, dd, hz, hkz, fun p ys hp dy => k _ _ _ (k1.trans (Kp.of (Same.new hp))) (e1.same (Same.new hp)) (Da.newLst e1.dom hp dy) r⟩
theorem leD_tI (a b : List Int) : leD (tI a) (tI b) = leT a b := rfl
theorem sbl_tI : Sbl (ks.map tI) ∨ [] ∈ ks := by
  by_cases hn : [] ∈ ks
  · exact .inr hn
  · refine .inl ⟨PySem.W.AllAlike.of fun _ _ => alike_tI _ _, .inl fun d hd => ?_, fun d hd => ?_⟩
    · obtain ⟨k, hk, rfl⟩ := List.mem_map.mp hd
      cases k with
      | nil => exact absurd hk hn
      | cons x k => exact ⟨_, _, rfl⟩
    · obtain ⟨k, hk, rfl⟩ := List.mem_map.mp hd
      have := depth_tI k
      omega
theorem crd_sort {d : PyData} (sq : SrcD d ds) (sb : Sbl ds) (cl : PyData.canLayAll0 ds = true) (hz : ds.length ≤ 1000) (r : R (.list (ds.mergeSort leD))) : CRD h rSortS [d] R := fun H vs Q dom dd k => by
  cases dd with
  | cons q r' =>
    cases r'
    exact ⟨h, _, d, ds, dom, rfl, q, sq, sb, cl, hz, fun p xs hp dx => k _ _ _ (Same.new hp) (Da.newLst dom hp dx) r⟩
theorem we_sort {kd : Nat} (hr : Room kd X.A) (hc : X.calm = true) (hg : Gl X "sorted") (hm : X.mg "sorted" = none) (w : WE X B h e ss fun d => ∃ ds, SrcD d ds ∧ Sbl ds ∧ PyData.canLayAll0 ds = true ∧ ds.length ≤ 1000 ∧ R (.list (ds.mergeSort leD)))
    (he : starEach (e :: []) X.env = (false, eval e X.env) :: starEach [] X.env := by rfl) (hpl : (backTo pos (starEach [] X.env)).any (·.1) = false := by rfl) :
    WE X B h (.Call (.Name "sorted" p) [e] [] pos) ss R := we_b1 (cr_sortS hc hr.units) hg hm (by decide +kernel) w (fun d ⟨ds, sq, sb, cl, hz, r⟩ => crd_sort sq sb cl hz r) (he := he) (hpl := hpl)
theorem mergeSort_tI : (ks.map tI).mergeSort leD = (ks.mergeSort leT).map tI := (List.map_mergeSort (fun a _ b _ => (leD_tI a b).symm)).symm
/-- sorted of lots -/
theorem de_sortT {kd : Nat} (hr : Room kd X.A) (hc : X.calm = true) (hg : Gl X "sorted") (hm : X.mg "sorted" = none) (hz : ks.length ≤ 1000) (ne : [] ∉ ks) (sq : SrcD x (ks.map tI)) (w : DE X B h e ss x)
    (he : starEach (e :: []) X.env = (false, eval e X.env) :: starEach [] X.env := by rfl) (hpl : (backTo pos (starEach [] X.env)).any (·.1) = false := by rfl) :
    DE X B h (.Call (.Name "sorted" p) [e] [] pos) ss (lTs (ks.mergeSort leT)) :=
  we_sort hr hc hg hm (w.imp fun d ed => ⟨ks.map tI, by rw [ed]; exact sq, sbl_tI.resolve_right ne, lay_tIs ks, by rw [List.length_map]; exact hz, by rw [mergeSort_tI]; rfl⟩) he hpl
theorem src_dT : SrcD (dTd ks) (ks.map tI) := .inr ⟨ks, rfl, rfl⟩
def leI (a b : Int) : Bool := decide (a ≤ b)
theorem mergeSort_int {ns : List Int} : (ns.map PyData.int).mergeSort leD = (ns.mergeSort leI).map .int := by
  refine (List.map_mergeSort (fun a _ b _ => ?_)).symm
  have := PySem.W.dataLe_int (β := Int) (fun a => a)
  show leI a b = PySem.W.dataLe false (fun b : Int => PyData.int b) a b
  rw [this]
  rfl
/-- sorted of ints -/
theorem de_sortI {kd : Nat} {ns : List Int} (hr : Room kd X.A) (hc : X.calm = true) (hg : Gl X "sorted") (hm : X.mg "sorted" = none) (hz : ns.length ≤ 1000) (sq : isSq (ns.map .int) x) (w : DE X B h e ss x)
    (he : starEach (e :: []) X.env = (false, eval e X.env) :: starEach [] X.env := by rfl) (hpl : (backTo pos (starEach [] X.env)).any (·.1) = false := by rfl) :
    DE X B h (.Call (.Name "sorted" p) [e] [] pos) ss (lI (ns.mergeSort leI)) :=
  we_sort hr hc hg hm (w.imp fun d ed => ⟨ns.map .int, by rw [ed]; exact .inl sq, ⟨PySem.W.AllAlike.of fun _ _ => by simp [PySem.W.alike], .inr fun d hd => by
    obtain ⟨n, _, rfl⟩ := List.mem_map.mp hd
    exact ⟨by simp, by simp⟩, fun d hd => by
    obtain ⟨n, _, rfl⟩ := List.mem_map.mp hd
    simp [PyData.depth]⟩, lay_ints ns, by rw [List.length_map]; exact hz, by rw [mergeSort_int]; rfl⟩) he hpl
/-! ### repr -/
theorem de_repr {kd : Nat} (hr : Room kd X.A) (gd : X.A.guards = some []) (hg : Gl X "repr") (hm : X.mg "repr" = none) (sw : Shw x) (cs : (∃ z, x = .str z) ∨ (∃ xs, x = .list xs) ∨ ∃ xs, x = .tuple xs) (w : DE X B h e ss x)
    (he : starEach (e :: []) X.env = (false, eval e X.env) :: starEach [] X.env := by rfl) (hpl : (backTo pos (starEach [] X.env)).any (·.1) = false := by rfl) :
    DE X B h (.Call (.Name "repr" p) [e] [] pos) ss (.str x.shown) := we_b1 (cr_repr hr.units gd) hg hm (by decide +kernel) w (fun d ed H vs Q dom dd k => by
  subst ed
  cases dd with
  | cons q r' =>
    cases r'
    exact ⟨_, _, rfl, q.mono hid_sub, sw, cs, k _ H _ (Same.refl _) (.str _) rfl⟩) (he := he) (hpl := hpl)
/-! ### dicts -/
/-- dict of pairs (lot, True) -/
theorem de_dictT {kd : Nat} (hr : Room kd X.A) (hg : Gl X "dict") (hm : X.mg "dict" = none) (hz : ks.length ≤ 1000) (w : DE X B h e ss (.list (ks.map pTD)))
    (he : starEach (e :: []) X.env = (false, eval e X.env) :: starEach [] X.env := by rfl) (hpl : (backTo pos (starEach [] X.env)).any (·.1) = false := by rfl) :
    DE X B h (.Call (.Name "dict" p) [e] [] pos) ss (dTd (ddK ks)) := we_t1 (cr_dictT hr) hg hm (by decide +kernel) w (fun d ed H vs Q dom dd k => by
  subst ed
  cases dd with
  | cons q r' =>
    cases r'
    cases q with
    | lst q r => exact ⟨_, _, ks, rfl, (hid_some.mp q).2, r.mono hid_sub, hz, fun p hp => k _ _ _ (Same.new hp) (.dT _ (hid_some.mpr ⟨fun z => (dom p z).ne hp, upd_same⟩)) rfl⟩) (he := he) (hpl := hpl)
def pKD (kv : Int × Int) : PyData := .tuple [.int kv.1, .int kv.2]
def eK (kv : Int × Int) : Key × V := (Sum.inl kv.1, V.int kv.2)
theorem putK_new {acc : List (Int × Int)} {kv : Int × Int} (n : kv.1 ∉ acc.map (·.1)) : putK (acc.map eK) (Sum.inl kv.1) (V.int kv.2) = (acc ++ [kv]).map eK := by
  unfold putK
  have : ((acc.map eK).any fun z => decide (z.1 = (Sum.inl kv.1 : Key))) = false := by
    rw [List.any_eq_false]
    intro z hz
    obtain ⟨y, hy, rfl⟩ := List.mem_map.mp hz
    simp only [decide_eq_true_eq]
    intro e
    exact n (List.mem_map.mpr ⟨y, hy, Sum.inl.inj e⟩)
  rw [this, List.map_append]
  rfl
theorem mergeK_new : ∀ (kvs acc : List (Int × Int)), ((acc ++ kvs).map (·.1)).Nodup → mergeK (acc.map eK) (kvs.map eK) = (acc ++ kvs).map eK := by
  intro kvs
  induction kvs with
  | nil => intro acc _; simp [mergeK]
  | cons kv kvs ih =>
    intro acc hn
    have e : acc ++ kv :: kvs = (acc ++ [kv]) ++ kvs := by simp
    have n : kv.1 ∉ acc.map (·.1) := by
      rw [List.map_append, List.nodup_append] at hn
      intro hm
      exact hn.2.2 _ hm _ (List.mem_map.mpr ⟨kv, List.mem_cons_self, rfl⟩) rfl
    rw [e] at hn ⊢
    rw [← ih (acc ++ [kv]) hn, ← putK_new n]
    rfl
/-- dict of pairs of ints -/
theorem de_dictK {kvs : List (Int × Int)} (hc : X.calm = true) (hg : Gl X "dict") (hm : X.mg "dict" = none) (nd : (kvs.map (·.1)).Nodup) (w : DE X B h e ss (.list (kvs.map pKD)))
    (he : starEach (e :: []) X.env = (false, eval e X.env) :: starEach [] X.env := by rfl) (hpl : (backTo pos (starEach [] X.env)).any (·.1) = false := by rfl) :
    DE X B h (.Call (.Name "dict" p) [e] [] pos) ss (dKd kvs) := we_t1 (call_dictP hc) hg hm (by decide +kernel) w (fun d ed H vs Q dom dd k => by
  subst ed
  cases dd with
  | cons q r' =>
    cases r'
    cases q with
    | lst q r =>
      have pr : ∀ {kvs : List (Int × Int)} {xs : List V}, DaL (hid h H) xs (kvs.map pKD) → ∃ ps : List Addr, xs = ps.map V.ref ∧ Paired (fun p kv => SqT X.K H p [kV kv.1, kv.2]) ps (kvs.map eK) := by
        intro kvs
        induction kvs with
        | nil =>
          intro xs r
          cases r
          exact ⟨[], rfl, .nil⟩
        | cons kv kvs ih =>
          intro xs r
          cases r with
          | cons r1 r2 =>
            obtain ⟨ps, e1, e2⟩ := ih r2
            unfold pKD at r1
            cases r1 with
            | tup q s =>
              have s' : DaL (hid h H) _ ([kv.1, kv.2].map .int) := s
              have := s'.ints
              subst this
              exact ⟨_ :: ps, by rw [e1]; rfl, .cons (SqT.of (hid_some.mp q).2) e2⟩
      obtain ⟨ps, e1, e2⟩ := pr r
      subst e1
      refine ⟨_, ps, kvs.map eK, rfl, SqL.of (hid_some.mp q).2, e2, fun p hp => ?_⟩
      have e3 : mergeK [] (kvs.map eK) = kvs.map eK := mergeK_new kvs [] nd
      rw [e3]
      exact k _ _ _ (Same.new hp) (.dK kvs (hid_some.mpr ⟨fun z => (dom p z).ne hp, upd_same⟩)) rfl) (he := he) (hpl := hpl)
/-- list(d), d a dict with lots as keys -/
theorem de_listT (hc : X.calm = true) (hg : Gl X "list") (hm : X.mg "list" = none) (w : DE X B h e ss (dTd ks))
    (he : starEach (e :: []) X.env = (false, eval e X.env) :: starEach [] X.env := by rfl) (hpl : (backTo pos (starEach [] X.env)).any (·.1) = false := by rfl) :
    DE X B h (.Call (.Name "list" p) [e] [] pos) ss (lTs ks) := we_t1 (call_list_dT hc) hg hm (by decide +kernel) w (fun d ed H vs Q dom dd k => by
  subst ed
  cases dd with
  | cons q r' =>
    cases r'
    obtain ⟨a, rfl, q'⟩ := q.isT
    refine ⟨a, _, rfl, .inl (hid_some.mp q').2, fun p bs hp ik => k _ _ _ (Same.new hp) (Da.newLst dom hp (ds := ks.map tI) ?_) rfl⟩
    have : ∀ {ks : List (List Int)} {bs : List Addr}, IsKeys H (ks.map fun k => (k.map Sum.inl, V.bl true)) bs → DaL (hid h H) (bs.map V.ref) (ks.map tI) := by
      intro ks
      induction ks with
      | nil =>
        intro bs r
        cases r
        exact .nil
      | cons k ks ih =>
        intro bs r
        cases r with
        | cons r1 r2 =>
          refine .cons (.tup (hid_some.mpr ⟨fun z => ?_, r1⟩) ?_) (ih r2)
          · obtain ⟨zs, ez⟩ := dom _ z
            rw [ez] at r1
            cases r1
          · show DaL (hid h H) ((k.map Sum.inl).map kV) _
            rw [map_kV]
            exact .of_ints k
    exact this ik) (he := he) (hpl := hpl)
/-! ### sorted(set(xs)) -/
theorem we_sortSet {kd : Nat} (hr : Room kd X.A) (hc : X.calm = true) (hg : Gl X "sorted") (hm : X.mg "sorted" = none) (hg2 : Gl X "set") (hm2 : X.mg "set" = none) (hz : ks.length < 64) (hb : ∀ k ∈ ks, k.length = 4 ∧ TS.Bd 64 k) (w : DE X B h e ss (lTs ks))
    (he : starEach (e :: []) X.env = (false, eval e X.env) :: starEach [] X.env := by rfl) (he2 : starEach (.Call (.Name "set" p2) [e] [] p3 :: []) X.env = (false, eval (.Call (.Name "set" p2) [e] [] p3) X.env) :: starEach [] X.env := by rfl)
    (hpl : (backTo pos (starEach [] X.env)).any (·.1) = false := by rfl) (hpl2 : (backTo p3 (starEach [] X.env)).any (·.1) = false := by rfl) :
    WE X B h (.Call (.Name "sorted" p) [.Call (.Name "set" p2) [e] [] p3] [] pos) ss fun d => ∃ ls : List (List Int), d = lTs ls ∧ ls.Nodup ∧ (∀ k, k ∈ ls ↔ k ∈ ks) ∧ ls.Pairwise (fun a b => TS.code 64 a ≤ TS.code 64 b) := fun σ H Q en k => by
  refine wE_of (pe_callB (cr_sortedT hc) hg hm (by decide +kernel) (pa_cons (pe_callTy (cr_setOfT hc hr.units) hg2 hm2 (by decide +kernel) (pa_cons pe_w pa_nil he) (he := he) (hpl := hpl2)) pa_nil he2) (he := he2) (hpl := hpl)) ?_
  refine w σ H _ en fun v H1 d k1 e1 dd ed => ?_
  subst ed
  unfold lTs at dd
  cases dd with
  | lst q r =>
    have pr : ∀ {ks : List (List Int)} {xs : List V}, DaL (hid h H1) xs (ks.map tI) → ∃ ps : List (Addr × List Int), xs = ps.map (fun p => V.ref p.1) ∧ ps.map (·.2) = ks ∧ ∀ p ∈ ps, hid h H1 p.1 = some (.tup (p.2.map V.int)) := by
      intro ks
      induction ks with
      | nil =>
        intro xs r
        cases r
        exact ⟨[], rfl, rfl, fun p z => nomatch z⟩
      | cons k ks ih =>
        intro xs r
        cases r with
        | cons r1 r2 =>
          obtain ⟨ps, e1, e2, e3⟩ := ih r2
          unfold tI at r1
          cases r1 with
          | tup q s =>
            have := s.ints
            subst this
            exact ⟨(_, k) :: ps, by rw [e1]; rfl, by rw [← e2]; rfl, fun p hp => by
              rcases List.mem_cons.mp hp with z | z
              · rw [z]; exact q
              · exact e3 p z⟩
    obtain ⟨ps, e2, e3, e4⟩ := pr r
    subst e2
    have hm : ∀ p ∈ ps, p.2 ∈ ks := fun p hp => by rw [← e3]; exact List.mem_map.mpr ⟨p, hp, rfl⟩
    refine ⟨_, ps, rfl, SqL.of (hid_some.mp q).2, fun p hp => SqT.of (hid_some.mp (e4 p hp)).2, by rw [← e3, List.length_map] at hz; exact hz, fun a L ha hL hA => ?_⟩
    refine ⟨a, L, 4, 64, rfl, upd_same, fun p hp => SqT.of (by rw [upd_ne (ne_of_none (hid_some.mp (e4 p (hL p hp))).2 ha)]; exact (hid_some.mp (e4 p (hL p hp))).2), by decide, fun p hp => hb _ (hm p (hL p hp)), fun L' p pm nd lf pw hp => ?_⟩
    have s1 : Same H1 (upd H1 a (SetTO X.prog X.w a L)) := Same.new ha
    have e5 := (e1.same s1).same (Same.new (o := .lst (L'.map fun q => V.ref q.1)) hp)
    refine k _ _ _ ((k1.trans (Kp.of s1)).trans (Kp.of (Same.new hp))) e5 (Da.newLst (ds := (L'.map (·.2)).map tI) (fun q hq => (e1.dom q hq).same s1) hp ?_) ⟨L'.map (·.2), rfl, nd, fun z => ?_, ?_⟩
    · have : ∀ L' : List (Addr × List Int), (∀ p ∈ L', p ∈ ps) → DaL (hid h (upd H1 a (SetTO X.prog X.w a L))) (L'.map fun q => V.ref q.1) ((L'.map (·.2)).map tI) := by
        intro L'
        induction L' with
        | nil => intro _; exact .nil
        | cons y L' ih =>
          intro hs
          exact .cons (.tup (hid_same s1 _ _ (e4 y (hs y List.mem_cons_self))) (.of_ints _)) (ih fun p hp => hs p (List.mem_cons_of_mem _ hp))
      exact this L' fun p hp => hL p (pm.mem_iff.mp hp)
    · constructor
      · intro hz
        obtain ⟨y, hy, rfl⟩ := List.mem_map.mp hz
        exact hm y (hL y (pm.mem_iff.mp hy))
      · intro hz
        rw [← e3] at hz
        obtain ⟨y, hy, rfl⟩ := List.mem_map.mp hz
        obtain ⟨u, hu, eu⟩ := List.mem_map.mp (hA y hy)
        exact List.mem_map.mpr ⟨u, pm.mem_iff.mpr hu, eu⟩
    · exact List.pairwise_map.mpr pw
/-! ### xor, sums of tuples and lists, a chain of comparisons -/
theorem de_xor (ha : DE X B h a ss (.int i)) (hb : DE X B h b ss (.int j)) : DE X B h (.BinOp a .BitXor b pos) ss (.int (Builtin.bitXor i j)) := de_op op_xor ha hb (r2_I0 (fun _ => .int _) rfl)
theorem we_catL {Ra Rb : List PyData → Prop} (ha : WE X B h a ss fun d => ∃ ds, d = .list ds ∧ Ra ds) (hb : WE X B h b ss fun d => ∃ ds, d = .list ds ∧ Rb ds) (hz : ∀ ds es, Ra ds → Rb es → ds.length + es.length ≤ 1000 ∧ R (.list (ds ++ es))) : WE X B h (.BinOp a .Add b pos) ss R :=
  we_op op_cat ha (fun _ _ => hb) fun x y ⟨ds, ex, rx⟩ ⟨es, ey, ry⟩ => by
    subst ex ey
    intro H vx vy Q dom dx dy k
    cases dx with
    | lst q1 r1 =>
      cases dy with
      | lst q2 r2 => exact ⟨_, _, _, _, rfl, rfl, (hid_some.mp q1).2, (hid_some.mp q2).2, by rw [r1.length, r2.length]; exact small_sz (hz _ _ rx ry).1, fun p hp => k _ _ _ (Same.new hp) (Da.newLst dom hp (r1.append r2)) (hz _ _ rx ry).2⟩
theorem de_catL {ds es : List PyData} (ha : DE X B h a ss (.list ds)) (hb : DE X B h b ss (.list es)) (hz : ds.length + es.length ≤ 1000) : DE X B h (.BinOp a .Add b pos) ss (.list (ds ++ es)) :=
  we_catL (Ra := fun x => x = ds) (Rb := fun x => x = es) (ha.imp fun d q => ⟨ds, q, rfl⟩) (hb.imp fun d q => ⟨es, q, rfl⟩) fun _ _ e1 e2 => by rw [e1, e2]; exact ⟨hz, rfl⟩
theorem de_catT {ds es : List PyData} (ha : DE X B h a ss (.tuple ds)) (hb : DE X B h b ss (.tuple es)) (n1 : ds ≠ []) (n2 : es ≠ []) (hz : ds.length + es.length ≤ 1000) : DE X B h (.BinOp a .Add b pos) ss (.tuple (ds ++ es)) :=
  de_op op_catT ha hb fun H vx vy Q dom dx dy k => by
    cases dx with
    | tup q1 r1 =>
      cases dy with
      | tup q2 r2 =>
        have m1 := r1.length
        have m2 := r2.length
        refine ⟨_, _, _, _, rfl, rfl, SqT.of (hid_some.mp q1).2, SqT.of (hid_some.mp q2).2, fun z => n1 ?_, by rw [m1, m2]; exact small_sz hz, fun z => absurd ?_ n2, fun _ p hp => k _ _ _ (Same.new hp) (Da.newTup dom hp (r1.append r2)) rfl⟩
        · subst z; exact List.length_eq_zero_iff.mp m1.symm
        · subst z; exact List.length_eq_zero_iff.mp m2.symm
theorem dt_chain (ha : DE X B h a ss (.int i)) (hb : DE X B h b ss (.int j)) (hc : DE X B h c ss (.int k)) (hm : lastMarks [.Lt, .Lt] [b, c] = false := by with_unfolding_all rfl) : DT X B h (.Compare a [.Lt, .Lt] [b, c] pos) ss (decide (i < j) && decide (j < k)) := fun σ H Q en kk => by
  refine wT_of (pt_chain op_lt op_lt pe_w pe_w pe_w hm) ?_
  refine ha σ H _ en fun vx H1 x k1 e1 d1 r1 => ?_
  subst r1
  cases d1
  refine hb σ H1 _ e1 fun vy H2 y k2 e2 d2 r2 => ?_
  subst r2
  cases d2
  refine ⟨i, j, rfl, rfl, decide (i < j), rfl, ?_⟩
  by_cases hij : i < j
  · simp only [hij, decide_true, Bool.true_and, if_true]
    refine hc σ H2 _ e2 fun vz H3 z k3 e3 d3 r3 => ?_
    subst r3
    cases d3
    exact ⟨j, k, rfl, rfl, _, rfl, kk _ H3 ((k1.trans k2).trans k3) e3 (by simp [hij])⟩
  · simp only [hij, decide_false, Bool.false_and, Bool.false_eq_true, if_false]
    exact ⟨false, rfl, kk _ H2 (k1.trans k2) e2 (by simp [hij])⟩
end
end F26

/-! more statements; defs with guards, defs that draw -/
namespace F26
open PySem PySem.Spec L2

section
variable {X : Cx} {B : Bs} {h : List Addr} {ss : List Sl} {e a b c o iter tg : Expr} {es : List Expr} {st : Stmt} {rest body body2 : List Stmt} {pos pos' apos cpos p spos px py pz pt : Pos} {N N' : List Sl → Prop} {R : List Sl → PyData → Prop} {Re : PyData → Prop} {n m : Str} {i j : Nat} {x : PyData}
theorem ws_expr (w : WE X B h e ss Re) (k : ∀ d, Re d → N ss) (hs : swapsWith e none pos.line X.env = pure false := by rfl) : WS X B h (.Expr e pos) ss N R := fun σ H D en k1 _ =>
  wS_of (ps_expr pe_w hs) (w σ H _ en fun v H1 d kp e1 dd r => k1 σ H1 ss (.of kp fun _ z => z) e1 (k d r))
theorem ws_par3 (i j l : Nat) {y z : Str} {kt k2 pt2} {Rs : List PyData → Prop} (hc : X.calm = true) (nd : X.N.Nodup) (w : WA X B h [a, b, c] ss Rs) (k : ∀ ds, Rs ds → ∃ d e f, ds = [d, e, f] ∧ N (((ss.set i (.d d)).set j (.d e)).set l (.d f))) (hij : i ≠ j := by decide) (hil : i ≠ l := by decide) (hjl : j ≠ l := by decide)
    (hi : X.N[i]? = some n := by rfl) (hj : X.N[j]? = some y := by rfl) (hl : X.N[l]? = some z := by rfl) (hx : X.env.scope.names.lookup n = some .local := by rfl) (hy : X.env.scope.names.lookup y = some .local := by rfl) (hz : X.env.scope.names.lookup z = some .local := by rfl)
    (hw : swappedStores [.Tuple [.Name n px, .Name y py, .Name z pz] kt pt] (.Tuple [a, b, c] k2 pt2) X.env = pure (some [n, y, z]) := by rfl)
    (hs : swapsWithSole [.Tuple [.Name n px, .Name y py, .Name z pz] kt pt] (.Tuple [a, b, c] k2 pt2) pos.line X.env = pure false := by rfl) :
    WS X B h (.Assign [.Tuple [.Name n px, .Name y py, .Name z pz] kt pt] (.Tuple [a, b, c] k2 pt2) pos) ss N R := fun σ H D en k1 _ =>
  wS_of (L2.ps_par3 hc nd hi hj hl hij hil hjl hx hy hz pa_w hw hs) (w σ H _ en fun vs H1 ds kp e1 dd r => by
    obtain ⟨d, e, f, ed, q⟩ := k ds r
    subst ed
    cases dd with
    | cons r1 dd =>
      cases dd with
      | cons r2 dd =>
        cases dd with
        | cons r3 dd =>
          cases dd
          exact ⟨_, _, _, rfl, k1 _ H1 _ (((Ke.of kp (own_set fun _ _ => by nofun)).trans (.of (Kp.refl _) (own_set fun _ _ => by nofun)) ((e1.set_d r1).set_d r2)).trans (.of (Kp.refl _) (own_set fun _ _ => by nofun)) (((e1.set_d r1).set_d r2).set_d r3)) (((e1.set_d r1).set_d r2).set_d r3) q⟩)
/-- a, b = two new lists -/
theorem ws_parFF (i j : Nat) {kt k2 pt2} {Ra Rb : List PyData → Prop} (hc : X.calm = true) (nd : X.N.Nodup) (wa : WF X B h a ss Ra) (wb : WF X B h b ss Rb) (na : ∀ ds, Ra ds → nlAll ds = true) (nb : ∀ ds, Rb ds → nlAll ds = true) (k : ∀ p q ds es, Ra ds → Rb es → N ((ss.set i (.l p ds)).set j (.l q es))) (hij : i ≠ j := by decide)
    (hi : X.N[i]? = some n := by rfl) (hj : X.N[j]? = some m := by rfl) (hx : X.env.scope.names.lookup n = some .local := by rfl) (hy : X.env.scope.names.lookup m = some .local := by rfl)
    (hsa : starEach [a, b] X.env = (false, eval a X.env) :: starEach [b] X.env := by rfl) (hsb : starEach [b] X.env = (false, eval b X.env) :: starEach [] X.env := by rfl)
    (hw : swappedStores [.Tuple [.Name n px, .Name m py] kt pt] (.Tuple [a, b] k2 pt2) X.env = pure (some [n, m]) := by rfl)
    (hs : swapsWithSole [.Tuple [.Name n px, .Name m py] kt pt] (.Tuple [a, b] k2 pt2) pos.line X.env = pure false := by rfl) :
    WS X B h (.Assign [.Tuple [.Name n px, .Name m py] kt pt] (.Tuple [a, b] k2 pt2) pos) ss N R := fun σ H D en k1 _ => by
  refine wS_of (ps_par hc nd hi hj hij hx hy (pa_cons pe_w (pa_cons pe_w pa_nil hsb) hsa) hw hs) (wa σ H _ en fun pa H1 xs ds kp e1 np b0 ph hp dd r => ?_)
  refine wb σ H1 _ e1 fun pb H2 ys es kp2 e2 np2 b02 ph2 hp2 dd2 r2 => ?_
  have hpm : pa ∉ B.md := fun z => ph (e1.mdh pa z)
  have hp' : H2 pa = some (.lst xs) := kp2.get hpm hp
  have dd' : DaL (hid h H2) xs ds := dd.mono (e1.up kp2)
  have hne : pb ≠ pa := fun z => by rw [z, hp] at np2; cases np2
  have E1 := en.set_l (i := i) e2 np b0 ph hp' dd' (na ds r)
  have fr : ∀ (k : Nat) fs, (ss.set i (.l pa ds))[k]? = some (.l pb fs) → k = j := fun k fs hk => by
    obtain ⟨_, _, _, _, zs, hz, _⟩ := E1.at_l hk
    by_cases hik : i = k
    · subst hik
      by_cases hl : i < ss.length
      · rw [List.getElem?_set_self hl] at hk
        cases hk
        exact absurd rfl hne
      · rw [List.getElem?_eq_none (by rw [List.length_set]; omega)] at hk
        cases hk
    · rw [List.getElem?_set_ne hik] at hk
      obtain ⟨_, _, _, _, zs', hz', _⟩ := e1.at_l hk
      rw [np2] at hz'
      cases hz'
  have E2 : En X.K B h H2 ((σ.set i (some (.ref pa))).set j (some (.ref pb))) ((ss.set i (.l pa ds)).set j (.l pb es)) :=
    E1.set (.inr ⟨rfl, ph2, b02, nb es r2, ys, hp2, dd2⟩) fun q gs z k fs hk => by
      cases z
      exact fr k fs hk
  refine ⟨_, _, rfl, k1 _ H2 _ ⟨fun b o e n _ => (Kp.trans kp kp2).get n e, fun q hq => ?_⟩ E2 (k pa pb ds es r r2)⟩
  rcases own_l q hq with z | z
  · exact (own_l q z).imp id fun z => by rw [z]; exact np
  · refine .inr ?_
    rw [z]
    exact kp.fresh np2 fun y => ph2 (e1.mdh pb y)
/-- a new list and a datum -/
theorem ws_parFE (i j : Nat) {kt k2 pt2} {Ra : List PyData → Prop} (hc : X.calm = true) (nd : X.N.Nodup) (wa : WF X B h a ss Ra) (wb : WE X B h b ss Re) (na : ∀ ds, Ra ds → nlAll ds = true) (k : ∀ p ds d, Ra ds → Re d → N ((ss.set i (.l p ds)).set j (.d d))) (hij : i ≠ j := by decide)
    (hi : X.N[i]? = some n := by rfl) (hj : X.N[j]? = some m := by rfl) (hx : X.env.scope.names.lookup n = some .local := by rfl) (hy : X.env.scope.names.lookup m = some .local := by rfl)
    (hsa : starEach [a, b] X.env = (false, eval a X.env) :: starEach [b] X.env := by rfl) (hsb : starEach [b] X.env = (false, eval b X.env) :: starEach [] X.env := by rfl)
    (hw : swappedStores [.Tuple [.Name n px, .Name m py] kt pt] (.Tuple [a, b] k2 pt2) X.env = pure (some [n, m]) := by rfl)
    (hs : swapsWithSole [.Tuple [.Name n px, .Name m py] kt pt] (.Tuple [a, b] k2 pt2) pos.line X.env = pure false := by rfl) :
    WS X B h (.Assign [.Tuple [.Name n px, .Name m py] kt pt] (.Tuple [a, b] k2 pt2) pos) ss N R := fun σ H D en k1 _ => by
  refine wS_of (ps_par hc nd hi hj hij hx hy (pa_cons pe_w (pa_cons pe_w pa_nil hsb) hsa) hw hs) (wa σ H _ en fun pa H1 xs ds kp e1 np b0 ph hp dd r => ?_)
  refine wb σ H1 _ e1 fun v H2 d kp2 e2 dv r2 => ?_
  have hpm : pa ∉ B.md := fun z => ph (e1.mdh pa z)
  have E1 := en.set_l (i := i) e2 np b0 ph (kp2.get hpm hp) (dd.mono (e1.up kp2)) (na ds r)
  refine ⟨_, _, rfl, k1 _ H2 _ ⟨fun b o e n _ => (Kp.trans kp kp2).get n e, fun q hq => ?_⟩ (E1.set_d dv) (k pa ds d r r2)⟩
  exact (own_l q (own_set (fun _ _ => by nofun) q hq)).imp id fun z => by rw [z]; exact np
/-- xs.extend(e) -/
theorem ws_extend (i : Nat) {q : Addr} {ds : List PyData} (hi : ss[i]? = some (.l q ds)) (ns : nlS ss i) (w : WE X B h e ss fun d => ∃ es, d = .list es ∧ nlAll es = true ∧ ds.length + es.length ≤ 1000 ∧ N (ss.set i (.l q (ds ++ es))))
    (hN : X.N[i]? = some m := by rfl) (hv : Vis X.env.scope m := by first | exact Or.inl rfl | exact Or.inr (Or.inl rfl) | exact Or.inr (Or.inr rfl)) (hd : (m == ("__debug__" : Str)) = false := by decide) (hcd : (m == ("__classdict__" : Str)) = false := by decide)
    (hbase : attributeBase (.Name m p) "extend" X.env (eval (.Name m p) X.env) = eval (.Name m p) X.env := by rfl)
    (hfew : ((backTo cpos (starEach (e :: []) X.env)).all (fun x => !x.1) && (backToKw cpos (keywordEach [] X.env)).all (fun x => x.1.isSome)
      && decide ((e :: []).length + ([] : List Keyword).length + (if ([] : List Keyword).isEmpty then 0 else 1) < 30)) = true := by rfl)
    (hline : (apos.endLine == cpos.line) = true := by rfl) (he : starEach (e :: []) X.env = (false, eval e X.env) :: starEach [] X.env := by rfl) (hplain : (backTo cpos (starEach [] X.env)).any (·.1) = false := by rfl)
    (hsw : swapsWith (.Call (.Attribute (.Name m p) "extend" apos) [e] [] cpos) none pos.line X.env = pure false := by rfl) :
    WS X B h (.Expr (.Call (.Attribute (.Name m p) "extend" apos) [e] [] cpos) pos) ss N R := fun σ H D en k1 _ => by
  refine wS_of (ps_expr (pe_bm PySem.F.plainAttrs_list PySem.F.slot_list_extend PySem.F.type_list_extend L2.mt_extend (pe_var hN hv hd hcd) pa_w hbase hfew hline he hplain) hsw) ?_
  obtain ⟨h1, h2, h3, h4, xs, h5, h6⟩ := en.at_l hi
  refine ⟨_, h1, .inl ⟨rfl, _, SqL.of h5⟩, wa_one w he σ H _ en fun vs H1 ds' kp e1 dd ⟨d, ed, es, ed2, nles, hz, nn⟩ => ?_⟩
  subst ed ed2
  cases dd with
  | cons dv rr =>
    cases rr
    cases dv with
    | lst r1 r2 =>
      obtain ⟨g1, g2, g3, g4, ys, g5, g6⟩ := e1.at_l hi
      refine ⟨q, _, ys, _, rfl, rfl, g5, (hid_some.mp r1).2, by rw [g6.length, r2.length]; exact small_sz hz, ?_⟩
      have E := e1.wr hi ns (g6.append r2) (nlAll_append g4 nles)
      exact k1 _ _ _ ((Ke.of kp fun _ z => z).trans (Ke.wr hi) E) E nn
theorem DaL.set_erase {H : Hp} {ds : List PyData} {vs : List V} (d : DaL H vs ds) (n : Nat) : DaL H (vs.eraseIdx n) (ds.eraseIdx n) := d.eraseIdx n
theorem nlAll_erase : ∀ {ds : List PyData} (n : Nat), nlAll ds = true → nlAll (ds.eraseIdx n) = true
  | [], _, h => h
  | d :: ds, 0, h => by
    simp only [nlAll, Bool.and_eq_true] at h
    exact h.2
  | d :: ds, n + 1, h => by
    simp only [nlAll, Bool.and_eq_true] at h
    show (nl d && nlAll (ds.eraseIdx n)) = true
    rw [h.1, nlAll_erase n h.2]
    rfl
theorem nlAll_get : ∀ {ds : List PyData} {n : Nat} {d : PyData}, nlAll ds = true → ds[n]? = some d → nl d = true
  | [], _, _, _, e => by simp at e
  | d :: ds, 0, _, h, e => by
    simp only [nlAll, Bool.and_eq_true] at h
    simp only [List.getElem?_cons_zero, Option.some.injEq] at e
    rw [← e]
    exact h.1
  | d :: ds, n + 1, _, h, e => by
    simp only [nlAll, Bool.and_eq_true] at h
    exact nlAll_get (n := n) h.2 (by simpa using e)
theorem sIdx_nat {k n : Nat} (h : k < n) : seqIndex? (k : Int) n = some k := by
  rw [seqIndex_of (by omega) (by omega)]
  rfl
/-- xs.append(ys.pop(e)) -/
theorem ws_appendPop (i j : Nat) {q r : Addr} {ds es : List PyData} {e : Expr} {p2 apos2 cpos2 : Pos} (hi : ss[i]? = some (.l q ds)) (hj : ss[j]? = some (.l r es)) (ns : nlS ss i) (w : WE X B h e ss fun d => ∃ k : Nat, d = .int (k : Nat) ∧ k < es.length ∧ ∀ y, es[k]? = some y → N ((ss.set j (.l r (es.eraseIdx k))).set i (.l q (ds ++ [y]))))
    (hz : ds.length ≤ 1000) (hz2 : es.length ≤ 1000) (hij : i ≠ j := by decide)
    (hN : X.N[i]? = some m := by rfl) (hN2 : X.N[j]? = some n := by rfl) (hv : Vis X.env.scope m := by first | exact Or.inl rfl | exact Or.inr (Or.inl rfl) | exact Or.inr (Or.inr rfl)) (hd : (m == ("__debug__" : Str)) = false := by decide) (hcd : (m == ("__classdict__" : Str)) = false := by decide)
    (hv2 : Vis X.env.scope n := by first | exact Or.inl rfl | exact Or.inr (Or.inl rfl) | exact Or.inr (Or.inr rfl)) (hd2 : (n == ("__debug__" : Str)) = false := by decide) (hcd2 : (n == ("__classdict__" : Str)) = false := by decide)
    (hbase : attributeBase (.Name m p) "append" X.env (eval (.Name m p) X.env) = eval (.Name m p) X.env := by rfl) (hbase2 : attributeBase (.Name n p2) "pop" X.env (eval (.Name n p2) X.env) = eval (.Name n p2) X.env := by rfl)
    (hfew : ((backTo cpos (starEach (.Call (.Attribute (.Name n p2) "pop" apos2) [e] [] cpos2 :: []) X.env)).all (fun x => !x.1) && (backToKw cpos (keywordEach [] X.env)).all (fun x => x.1.isSome)
      && decide ((Expr.Call (.Attribute (.Name n p2) "pop" apos2) [e] [] cpos2 :: []).length + ([] : List Keyword).length + (if ([] : List Keyword).isEmpty then 0 else 1) < 30)) = true := by rfl)
    (hfew2 : ((backTo cpos2 (starEach (e :: []) X.env)).all (fun x => !x.1) && (backToKw cpos2 (keywordEach [] X.env)).all (fun x => x.1.isSome)
      && decide ((e :: []).length + ([] : List Keyword).length + (if ([] : List Keyword).isEmpty then 0 else 1) < 30)) = true := by rfl)
    (hline : (apos.endLine == cpos.line) = true := by rfl) (hline2 : (apos2.endLine == cpos2.line) = true := by rfl) (he : starEach (.Call (.Attribute (.Name n p2) "pop" apos2) [e] [] cpos2 :: []) X.env = (false, eval (.Call (.Attribute (.Name n p2) "pop" apos2) [e] [] cpos2) X.env) :: starEach [] X.env := by rfl) (hplain : (backTo cpos (starEach [] X.env)).any (·.1) = false := by rfl)
    (he2 : starEach (e :: []) X.env = (false, eval e X.env) :: starEach [] X.env := by rfl) (hplain2 : (backTo cpos2 (starEach [] X.env)).any (·.1) = false := by rfl)
    (hsw : swapsWith (.Call (.Attribute (.Name m p) "append" apos) [.Call (.Attribute (.Name n p2) "pop" apos2) [e] [] cpos2] [] cpos) none pos.line X.env = pure false := by rfl) :
    WS X B h (.Expr (.Call (.Attribute (.Name m p) "append" apos) [.Call (.Attribute (.Name n p2) "pop" apos2) [e] [] cpos2] [] cpos) pos) ss N R := fun σ H D en k1 _ => by
  refine wS_of (ps_expr (pe_bm PySem.F.plainAttrs_list PySem.F.slot_list_append PySem.F.type_list_append mt_append (pe_var hN hv hd hcd)
    (pa_cons (pe_bm PySem.F.plainAttrs_list PySem.F.slot_list_pop PySem.F.type_list_pop L2.mt_popAt (pe_var hN2 hv2 hd2 hcd2) (pa_cons pe_w pa_nil he2) hbase2 hfew2 hline2 he2 hplain2) pa_nil he) hbase hfew hline he hplain) hsw) ?_
  obtain ⟨h1, h2, h3, h4, xs, h5, h6⟩ := en.at_l hi
  obtain ⟨g1, g2, g3, g4, ys, g5, g6⟩ := en.at_l hj
  refine ⟨_, h1, .inl ⟨rfl, _, SqL.of h5⟩, _, g1, .inl ⟨rfl, _, SqL.of g5⟩, ?_⟩
  refine w σ H _ en fun v H1 d kp e1 dd ⟨k, ed, hk, kk⟩ => ?_
  subst ed
  cases dd
  obtain ⟨h1, h2, h3, h4, xs, h5, h6⟩ := e1.at_l hi
  obtain ⟨g1, g2, g3, g4, ys, g5, g6⟩ := e1.at_l hj
  obtain ⟨y, hy⟩ : ∃ y, es[k]? = some y := ⟨_, List.getElem?_eq_getElem hk⟩
  obtain ⟨vy, hvy, dvy⟩ := g6.getD hy
  have lys := g6.length
  have nsj : nlS ss j := fun l x hl hne => by
    by_cases z : l = i
    · subst z
      rw [hi] at hl
      cases hl
    · exact ns l x hl z
  have E1 := e1.wr hj nsj (g6.eraseIdx k) (nlAll_erase k g4)
  have hi' : (ss.set j (.l r (es.eraseIdx k)))[i]? = some (.l q ds) := by rw [List.getElem?_set_ne hij.symm]; exact hi
  obtain ⟨a1, a2, a3, a4, zs, a5, a6⟩ := E1.at_l hi'
  have ns' : nlS (ss.set j (.l r (es.eraseIdx k))) i := fun l x hl hne => by
    by_cases z : j = l
    · subst z
      rw [List.getElem?_set_self (List.getElem?_eq_some_iff.mp hj).1] at hl
      cases hl
    · rw [List.getElem?_set_ne z] at hl
      exact ns l x hl hne
  have dvy' : Da (hid h (upd H1 r (.lst (ys.eraseIdx k)))) vy y := Da.off (p := r) (xs := ys) (hid_some.mpr ⟨g2, g5⟩) (fun b o hb q => hid_some.mpr ⟨(hid_some.mp q).1, by rw [upd_ne hb]; exact (hid_some.mp q).2⟩) dvy (nlAll_get g4 hy)
  refine ⟨r, ys, (k : Int), k, vy, rfl, rfl, g5, by omega, by omega, by rw [lys]; exact sIdx_nat hk, hvy, ?_⟩
  refine ⟨q, zs, vy, rfl, rfl, a5, by rw [a6.length]; exact Nat.lt_of_le_of_lt hz (by decide), ?_⟩
  have E2 := E1.wr hi' ns' (a6.append (.cons dvy' .nil)) (nlAll_append a4 (by simp [nlAll, nlAll_get g4 hy]))
  exact k1 _ _ _ (((Ke.of kp fun _ z => z).trans (Ke.wr hj) E1).trans (Ke.wr hi') E2) E2 (kk y hy)
end
end F26

/-! a loop over a list with one own list; defs with guards, defs that draw -/
namespace F26
open PySem PySem.Spec L2

section
variable {X : Cx} {B : Bs} {h : List Addr} {ss : List Sl} {iter tg : Expr} {body : List Stmt} {pos : Pos} {N : List Sl → Prop} {R : List Sl → PyData → Prop} {P : List PyData → Prop}
theorem En.hideOwn {K : PySem.W.Frag} {H : Hp} {σ : L2.St} (E : En K B h H σ ss) {i : Nat} {q : Addr} {ds : List PyData} (hi : ss[i]? = some (.l q ds)) (ns : nlS ss i) : En K B (q :: h) H σ (ss.set i .u) := by
  obtain ⟨h1, h2, h3, h4, xs, h5, h6⟩ := E.at_l hi
  have hp : hid h H q = some (.lst xs) := hid_some.mpr ⟨h2, h5⟩
  have off : ∀ b o, b ≠ q → hid h H b = some o → hid (q :: h) H b = some o := fun b o hb e => hid_some.mpr ⟨fun z => (List.mem_cons.mp z).elim hb (hid_some.mp e).1, (hid_some.mp e).2⟩
  refine ⟨E.rel, fun x hx => ?_, fun x hx => List.mem_cons_of_mem _ (E.mdh x hx), by rw [List.length_set]; exact E.len, fun j x hj => ?_, fun j k p fs gs hj hk => ?_⟩
  · rcases List.mem_cons.mp hx with z | z
    · exact ⟨xs, by rw [z]; exact h5⟩
    · exact E.dom x z
  · by_cases hij : i = j
    · subst hij
      rw [List.getElem?_set_self (List.getElem?_eq_some_iff.mp hi).1] at hj
      exact .inl (Option.some.inj hj).symm
    · rw [List.getElem?_set_ne hij] at hj
      rcases E.sl j x hj with z | ⟨v, a, s⟩
      · exact .inl z
      · refine .inr ⟨v, a, ?_⟩
        cases x with
        | u => trivial
        | d x => exact Da.off hp off s (ns j x hj fun z => hij z.symm)
        | l p fs =>
          obtain ⟨a1, a2, a3, a4, zs, a5, a6⟩ := s
          have hq : p ≠ q := fun z => hij (E.nd i j q ds fs hi (by rw [← z]; exact hj))
          exact ⟨a1, fun z => (List.mem_cons.mp z).elim hq a2, a3, a4, zs, a5, DaL.off hp off a6 a4⟩
        | f F G => exact s
        | q a ns => exact s
  · have back : ∀ (j : Nat) (p : Addr) (fs : List PyData), (ss.set i .u)[j]? = some (.l p fs) → ss[j]? = some (.l p fs) := fun j p fs hj => by
      by_cases hij : i = j
      · subst hij
        rw [List.getElem?_set_self (List.getElem?_eq_some_iff.mp hi).1] at hj
        cases hj
      · rw [List.getElem?_set_ne hij] at hj
        exact hj
    exact E.nd j k p fs gs (back j p fs hj) (back k p gs hk)
theorem ws_forL {g : TG} {T : PyData → List Sl → List Sl → Prop} {vs : List Nat} (i : Nat) {q : Addr} {ds0 : List PyData} (I : List PyData → Nat → List Sl → Prop) (hp : PassesOwn (model X.prog X.w) X.A X.env X.xe) (hc : X.calm = true) (hq : ss[i]? = some (.l q ds0)) (ns : nlS ss i) (hi : WI X B (q :: h) tg iter (ss.set i .u) P) (hg : PG X tg g) (tg_ok : TgOk X.K g vs T) (to : TgOwn T)
    (no : ∀ ds k s, P ds → I ds k s → (∀ p, Own s p → p = q) ∧ ∃ es, s[i]? = some (.l q es)) (i0 : ∀ ds, P ds → I ds 0 ss) (turn : ∀ ds k d s, P ds → ds[k]? = some d → I ds k s → (∃ s', T d s s') ∧ ∀ s', T d s s' → WSs X B h body s' (I ds (k + 1)) R) (k : ∀ ds s, P ds → I ds ds.length s → N s)
    (hs : ∀ x, foldedSetIterable iter X.env x = pure x := by intro _; rfl) : WS X B h (.For tg iter body [] pos) ss N R := by
  obtain ⟨wi, p1, p2⟩ := hi
  refine fun σ H D en k1 k2 => wS_of (ps_for hp hc p1 hg pss_w hs) (p2 σ H _ (en.hideOwn hq ns) fun J H1 ds ok pd src ok1 kp e1' => ?_)
  have e1 : En X.K B h H1 σ ss := en.along kp e1' (fun x hx => List.mem_cons_of_mem _ hx) fun j F G hj => by
    have hij : i ≠ j := fun z => by rw [z, hj] at hq; cases hq
    exact (e1'.at_f (show (ss.set i .u)[j]? = some (.f F G) by rw [List.getElem?_set_ne hij]; exact hj)).2.2.2
  let W : Nat → Nat → L2.St → Hp → Prop := fun k m σ' H' => m = ds.length - k ∧ k ≤ ds.length ∧ ok (q :: h) H' ∧ ∃ s, En X.K B h H' σ' s ∧ Ke B ss s H H' ∧ I ds k s
  refine ⟨W, ⟨ds.length, rfl, Nat.zero_le _, ok1, ss, e1, .of kp fun _ z => z, i0 ds pd⟩, ?_⟩
  rintro k' m σ' H' ⟨rfl, hi, okH, s, es, ke, is⟩
  by_cases hlt : k' < ds.length
  · refine .inr ⟨src.go _ k' H' okH hlt, fun σ2 H2 => W (k' + 1) (ds.length - (k' + 1)) σ2 H2, fun σ2 H2 w => ⟨_, by omega, w⟩, fun v H2 hy => ?_⟩
    have hd : ds[k']? = some ds[k'] := List.getElem?_eq_getElem hlt
    obtain ⟨own, xs, hxs⟩ := no ds k' s pd is
    have dom' : ∀ x ∈ q :: h, IsL H' x := fun x hx => by
      rcases List.mem_cons.mp hx with z | z
      · obtain ⟨_, _, _, _, ys, hy, _⟩ := es.at_l hxs
        exact ⟨ys, by rw [z]; exact hy⟩
      · exact es.dom x z
    obtain ⟨sy, dy⟩ := src.yld _ k' H' v H2 _ dom' okH hd hy
    obtain ⟨tex, tl⟩ := turn ds k' _ s pd hd is
    refine tg_ok B h v _ _ H2 _ _ (es.same sy) (dy.mono (hid_anti fun x hx => List.mem_cons_of_mem _ hx)) tex fun σ2 s2 t2 en2 _ => ?_
    have k02 : Ke B ss s2 H H2 := ke.trans (.of (Kp.of sy) (to _ _ _ t2)) en2
    refine tl s2 t2 σ2 H2 _ en2 (fun σ3 H3 s3 k3 e3 q3 => ?_) fun v3 σ3 H3 s3 d3 k3 e3 dd q3 => k2 v3 σ3 H3 s3 d3 (k02.trans k3 e3) e3 dd q3
    have up3 : Same (hid (q :: h) H2) (hid (q :: h) H3) := fun b o z => by
      obtain ⟨z1, z2⟩ := hid_some.mp z
      exact hid_some.mpr ⟨z1, k3.kp b o z2 (fun y => z1 (List.mem_cons_of_mem _ (en2.mdh b y))) fun y => z1 (by rw [own b (to _ _ _ t2 b y)]; exact List.mem_cons_self)⟩
    exact ⟨rfl, hlt, src.st _ _ _ (src.st _ _ _ okH (hid_same sy)) up3, s3, e3, k02.trans k3 e3, q3⟩
  · have e : k' = ds.length := by omega
    subst e
    exact .inl ⟨src.stop _ H' okH, k1 σ' H' s ke es (k ds s pd is)⟩
end

section
variable {P : Program} {w : World} {K : PySem.W.Frag} {mg : Str → Option Value} {base : Heap} {x qual : Str} {st : Stmt} {f : Addr} {fd : FuncData} {N ps : List Str} {k : Nat} {g : Bool}
/-- from the body of a def to its promise, with what is known of the caller's guards -/
theorem fnV_of {CT : CXT} {sp : Sp} (F : Fun K x qual st f fd) (S : FnScope N ps (defScope st)) (len : ∀ vs H Q E, sp vs H Q E → vs.length = ps.length)
    (bodyOk : ∀ (cdv : Value) (A : Around) (outer : List Env) (s : Shared) (H : Hp) (vs : List V) (Q : VK) (E : XK), (g = true → A.guards = some []) → Room k (A.deeper (PyProof.Rows.envOfC qual (defScope st) s.heap.objs.size f cdv)) → sp vs H Q E →
      ∃ t, PSs (cxOf CT P w K mg base N qual (defScope st) f cdv A outer s H E) (defBody st) t ∧ t { nx := fun _ H' => Q .non H', rt := Q } (start N vs) H) : FnV g P w K mg base CT (k + 1) f fd ps sp := by
  obtain ⟨oc, od, kV, doc, pm, an, cdv, ct, osl, rfl, lk, hcd⟩ := F.ex
  refine ⟨len, fun A outer s H args us vs Q E gd room env0 bnd rel hsp => ?_⟩
  have inK : K.In s.heap := env0.mod.kin.keeps fun b o z => (env0.bs b o z).1
  have noLim : s.heap.NoLimit := env0.mod.nolimit.keeps fun b o z => (env0.bs b o z).1
  have kinds : ∀ y ∈ ps.zip us, (defScope st).names.lookup y.1 = some .local ∨ ((defScope st).names.lookup y.1 = some .cell ∧ ((cellsFrom (s.heap.objs.size + 1) (defScope st).names []).lookup y.1).isSome = true) := by
    rintro ⟨nm, vl⟩ hmem
    rcases S.par nm (List.of_mem_zip hmem).1 with loc | cel
    · exact .inl loc
    · exact .inr ⟨cel, PySem.W.cellsFrom_some _ _ _ (.inl cel)⟩
  refine codeAny_call_function room.depth (inK _ _ lk) rfl S.co S.gen rfl (PySem.W.codeRec_of inK hcd) (bnd _ _ _ _ ?_)
  refine wpAny_newFunctionEnv_cells S.kind kinds fun env isEnv s1 inC => ?_
  subst isEnv
  refine ⟨noLim.keeps inC.toInCall.keep, codeAny_func ?_⟩
  obtain ⟨t, rd, holds⟩ := bodyOk cdv A outer s H vs Q E gd (room.deeper _) hsp
  have I0 : Inv (cxOf CT P w K mg base N qual (defScope st) f cdv A outer s H E) [] (start N vs) H s1 := inv_start S room.hd env0 (len _ _ _ _ hsp) rel inC
  refine wpAny_mono (rd.run [] s1 (start N vs) H _ I0 holds) (fun flow s2 done => ?_) fun _ _ z => z
  cases flow with
  | ret u =>
    obtain ⟨v, σ', H', J, rv, qq⟩ := done
    exact ⟨v, H', J.os, J.bare, J.base, J.hok, rv, qq⟩
  | next =>
    obtain ⟨σ', H', J, qq⟩ := done
    exact ⟨V.non, H', J.os, J.bare, J.base, J.hok, (rfl : RelV V.non Value.none), qq⟩
  | brk =>
    obtain ⟨_, _, _, qq⟩ := done
    exact qq.elim
  | cont =>
    obtain ⟨_, _, _, qq⟩ := done
    exact qq.elim
/-- the context of a def's body -/
def XB (g : Bool) (P : Program) (w : World) (K : PySem.W.Frag) (mg : Str → Option Value) (base : Heap) (N : List Str) (qual : Str) (st : Stmt) (k : Nat) (X : Cx) : Prop :=
  ∃ f cdv A outer s H E, X = (cxOf CX0 P w K mg base N qual (defScope st) f cdv A outer s H E).nox ∧ Room k X.A ∧ (g = true → X.A.guards = some [])
/-- THE RULE for a pure def -/
theorem fnG {pm : List PyData → (PyData → Prop) → Prop} (F : Fun K x qual st f fd) (S : FnScope N ps (defScope st)) (ln : ∀ ds R, pm ds R → ds.length = ps.length) (lp : ps.length ≤ N.length)
    (body : ∀ (X : Cx) (H : Hp) (h : List Addr) (ds : List PyData) (R : PyData → Prop), XB g P w K mg base N qual st k X → pm ds R →
      WSs X ⟨H, []⟩ h (defBody st) (ent N ds) (fun _ => R .none) (fun _ d => R d)) : FnV g P w K mg base CX0 (k + 1) f fd ps (spP pm) := by
  refine fnV_of F S (fun vs H Q E ⟨h, ds, R, _, dd, pd, _⟩ => by rw [dd.length]; exact ln ds R pd) fun cdv A outer s H vs Q E gd hr ⟨h, ds, R, dom, dd, pd, q⟩ => ?_
  refine ⟨_, pss_w.nox, ?_⟩
  have fin : ∀ {σ' : L2.St} {H' : Hp} {s' : List Sl}, En K ⟨H, []⟩ h H' σ' s' → Same H H' := fun e => by
    have := e.rel
    rw [show (⟨H, []⟩ : Bs).md = [] from rfl, hid_nil, hid_nil] at this
    exact this
  refine body _ H h ds R ⟨f, cdv, A, outer, s, H, E, rfl, hr, gd⟩ pd _ H _ (En.entry dom dd (by rw [ln ds R pd]; exact lp)) (fun σ' H' s' _ e r => q .non H' .none (fin e) .non r) fun v σ' H' s' d _ e dv r => q v H' d (fin e) dv r
/-- the slots at the entry of a drawing def -/
def entI (N : List Str) (F G : Addr) (ds : List PyData) : List Sl := .f F G :: (ds.map Sl.d ++ List.replicate (N.length - (ds.length + 1)) .u)
theorem En.entryI {H : Hp} {h : List Addr} {F G : Addr} {vs : List V} {ds : List PyData} (dom : ∀ q ∈ h, IsL H q) (hF : F ∈ h) (hG : G ∈ h) (fo : Fount F G H) (dd : DaL (hid h H) vs ds) (l : ds.length + 1 ≤ N.length) : En K ⟨H, [F, G]⟩ h H (L2.start N (.ref F :: vs)) (entI N F G ds) where
  rel := Same.refl _
  dom := dom
  mdh := fun x z => by
    rcases List.mem_cons.mp z with z | z
    · rw [z]; exact hF
    · rw [List.mem_singleton.mp z]; exact hG
  len := by
    rw [start_len (by rw [List.length_cons, dd.length]; exact l)]
    unfold entI
    rw [List.length_cons, List.length_append, List.length_map, List.length_replicate]
    omega
  sl := fun i y hi => by
    cases i with
    | zero =>
      unfold entI at hi
      simp only [List.getElem?_cons_zero, Option.some.injEq] at hi
      subst hi
      exact .inr ⟨.ref F, rfl, rfl, by simp, by simp, fo⟩
    | succ i =>
      unfold entI at hi
      rw [List.getElem?_cons_succ] at hi
      by_cases hl : i < ds.length
      · rw [List.getElem?_append_left (by simpa using hl), List.getElem?_map] at hi
        obtain ⟨v, hv, dv⟩ := dd.getD (List.getElem?_eq_getElem hl)
        rw [List.getElem?_eq_getElem hl] at hi
        cases hi
        refine .inr ⟨v, ?_, dv⟩
        unfold L2.start
        rw [List.getElem?_append_left (by rw [List.length_map, List.length_cons, dd.length]; omega), List.getElem?_map, List.getElem?_cons_succ, hv]
        rfl
      · rw [List.getElem?_append_right (by rw [List.length_map]; omega), List.getElem?_replicate] at hi
        split at hi
        · exact .inl (Option.some.inj hi).symm
        · cases hi
  nd := fun i j p ds' es hi hj => by
    have none : ∀ (i : Nat) (es : List PyData), (entI N F G ds)[i]? ≠ some (.l p es) := fun i es hi => by
      unfold entI at hi
      cases i with
      | zero => simp at hi
      | succ i =>
        rw [List.getElem?_cons_succ] at hi
        by_cases hl : i < ds.length
        · rw [List.getElem?_append_left (by simpa using hl), List.getElem?_map, List.getElem?_eq_getElem hl] at hi
          cases hi
        · rw [List.getElem?_append_right (by rw [List.length_map]; omega), List.getElem?_replicate] at hi
          split at hi <;> cases hi
    exact absurd hi (none i ds')
/-- THE RULE for a drawing def: its first parameter is the fount -/
theorem fnI {pm : List PyData → (PyData → Prop) → Prop} (F : Fun K x qual st f fd) (S : FnScope N ps (defScope st)) (ln : ∀ ds R, pm ds R → ds.length + 1 = ps.length) (lp : ps.length ≤ N.length)
    (body : ∀ (X : Cx) (H : Hp) (h : List Addr) (F G : Addr) (ds : List PyData) (R : PyData → Prop), XB g P w K mg base N qual st k X → pm ds R →
      WSs X ⟨H, [F, G]⟩ h (defBody st) (entI N F G ds) (fun s => s[0]? = some (.f F G) ∧ R .none) (fun s d => s[0]? = some (.f F G) ∧ R d)) : FnV g P w K mg base CX0 (k + 1) f fd ps (spI pm) := by
  refine fnV_of F S (fun vs H Q E ⟨h, F, G, vr, ds, R, ev, _, _, _, _, dd, pd, _⟩ => by rw [ev, List.length_cons, dd.length]; exact ln ds R pd) fun cdv A outer s H vs Q E gd hr ⟨h, F, G, vr, ds, R, ev, hF, hG, dom, fo, dd, pd, q⟩ => ?_
  refine ⟨_, pss_w.nox, ?_⟩
  subst ev
  refine body _ H h F G ds R ⟨f, cdv, A, outer, s, H, E, rfl, hr, gd⟩ pd _ H _ (En.entryI dom hF hG fo dd (by rw [ln ds R pd]; exact lp)) (fun σ' H' s' _ e r => q .non H' .none e.rel (e.at_f r.1).2.2.2 .non r.2) fun v σ' H' s' d _ e dv r => q v H' d e.rel (e.at_f r.1).2.2.2 dv r.2
end
end F26

/-! the text by places; lists made of lists -/
namespace F26
open PySem PySem.Spec L2

def top (i : Nat) : Stmt := PySem.Challenge.pw_forktold_k26_whole_webs_that_go_together.main.body.getD i (.Pass ⟨0, 0, 0, 0⟩)
/-- built-ins' names are not taken -/
def bi : List Str := ["len", "tuple", "sorted", "list", "dict", "range", "all", "sum", "set", "enumerate", "int", "isinstance", "repr"]
def Bi (mg : Str → Option Value) : Prop := ∀ x ∈ bi, mg x = none

section
variable {X : Cx} {B : Bs} {h : List Addr} {ss : List Sl} {elt iter : Expr} {ifs : List Expr} {scope : Scope} {pos tpos : Pos} {n : Str} {α : Type} {as : List α} {enc out : α → PyData} {p : α → Bool}
/-- the list so far -/
def accF (as : List α) (p : α → Bool) (out : α → PyData) (i : Nat) : List PyData := ((as.take i).filter p).map out
theorem accF_all : accF as p out as.length = (as.filter p).map out := by
  unfold accF
  rw [List.take_length]
theorem accF_yes {i : Nat} {a : α} (ha : as[i]? = some a) (hp : p a = true) : accF as p out (i + 1) = accF as p out i ++ [out a] := by
  unfold accF
  rw [List.take_add_one, ha]
  simp [hp]
theorem accF_no {i : Nat} {a : α} (ha : as[i]? = some a) (hp : p a = false) : accF as p out (i + 1) = accF as p out i := by
  unfold accF
  rw [List.take_add_one, ha]
  simp [hp]
theorem map_get {i : Nat} {d : PyData} (e : (as.map enc)[i]? = some d) : ∃ a, as[i]? = some a ∧ d = enc a := by
  rw [List.getElem?_map] at e
  cases q : as[i]? with
  | none => rw [q] at e; cases e
  | some a =>
    rw [q] at e
    exact ⟨a, rfl, (Option.some.inj e).symm⟩
theorem lct_of {ss' : List Sl} {I' : List PyData → Prop} {acc : List PyData} {b : Bool} {y : PyData} (t : ∀ (D : Addr) (s : Shared) (H : Hp) (C : Addr) (cl : List (Str × Addr)) (fp : List Addr), WTs (Blk X scope s H C cl fp) B (D :: h) ifs ss' (fun x => x = b))
    (e : b = true → ∀ (D : Addr) (s : Shared) (H : Hp) (C : Addr) (cl : List (Str × Addr)) (fp : List Addr), DE (Blk X scope s H C cl fp) B (D :: h) elt ss' y) (n : b = false → I' acc) (k : b = true → I' (acc ++ [y])) : Lct X B h scope ifs elt ss' acc I' :=
  ⟨fun x => x = b, t, fun z => n z.symm, fun z D s H C cl fp => (e z.symm D s H C cl fp).imp fun d q => by rw [q]; exact k z.symm⟩
/-- [elt for n in iter if ..] -/
theorem de_lcF (j : Nat) (hc : X.calm = true) (hN : X.N.Nodup) (hi : DI X B h (.Name n tpos) iter ss (as.map enc)) (ok : BlkOk X.N X.env.scope scope [(n, j)])
    (tst : ∀ a ∈ as, ∀ (D : Addr) (s : Shared) (H : Hp) (C : Addr) (cl : List (Str × Addr)) (fp : List Addr), WTs (Blk X scope s H C cl fp) B (D :: h) ifs (ss.set j (.d (enc a))) (fun b => b = p a))
    (el : ∀ a ∈ as, p a = true → ∀ (D : Addr) (s : Shared) (H : Hp) (C : Addr) (cl : List (Str × Addr)) (fp : List Addr), DE (Blk X scope s H C cl fp) B (D :: h) elt (ss.set j (.d (enc a))) (out a))
    (hz : as.length ≤ 1000) (nf : nofS ss [j] = true := by rfl) (hl : ifs.length ≤ 1 := by decide)
    (hg : ∀ (s : Shared) (H : Hp) (C : Addr) (cl : List (Str × Addr)) (fp : List Addr), PG (Blk X scope s H C cl fp) (.Name n tpos) (gName j) := by exact fun s H C cl fp => pg_name (by assumption) rfl (by first | exact Or.inl rfl | exact Or.inr rfl))
    (hs : ∀ x, foldedSetIterable iter X.env x = pure x := by intro _; rfl) :
    DE X B h (.ListComp elt [⟨.Name n tpos, iter, ifs, 0⟩] scope pos) ss (.list ((as.filter p).map out)) :=
  (we_lc (P := fun ds => ds = as.map enc) (T := tName j) (own := [(n, j)]) (fun ds i acc => acc = accF as p out i) hc hN hi ok hg hl tg_name tk_name nf (fun ds e => by rw [e, List.length_map]; exact hz) (fun ds _ => by unfold accF; simp) (fun ds i d acc pd hd ia => by
    subst pd
    obtain ⟨a, ha, rfl⟩ := map_get hd
    refine ⟨⟨_, rfl⟩, fun ss' t => ?_⟩
    have t' : ss' = ss.set j (.d (enc a)) := by
      rw [show ss' = ((ss.set j .u).set j (.d (enc a))) from t, List.set_set]
    subst t' ia
    exact lct_of (tst a (List.mem_of_getElem? ha)) (el a (List.mem_of_getElem? ha)) (fun z => (accF_no ha z).symm) fun z => (accF_yes ha z).symm) hs).imp
    fun d ⟨ds, acc, e1, e2, _, e3⟩ => by rw [e2, e3, e1, List.length_map, accF_all]
/-- [elt for n in iter] -/
theorem de_lcM (j : Nat) (hc : X.calm = true) (hN : X.N.Nodup) (hi : DI X B h (.Name n tpos) iter ss (as.map enc)) (ok : BlkOk X.N X.env.scope scope [(n, j)])
    (el : ∀ a ∈ as, ∀ (D : Addr) (s : Shared) (H : Hp) (C : Addr) (cl : List (Str × Addr)) (fp : List Addr), DE (Blk X scope s H C cl fp) B (D :: h) elt (ss.set j (.d (enc a))) (out a))
    (hz : as.length ≤ 1000) (nf : nofS ss [j] = true := by rfl)
    (hg : ∀ (s : Shared) (H : Hp) (C : Addr) (cl : List (Str × Addr)) (fp : List Addr), PG (Blk X scope s H C cl fp) (.Name n tpos) (gName j) := by exact fun s H C cl fp => pg_name (by assumption) rfl (by first | exact Or.inl rfl | exact Or.inr rfl))
    (hs : ∀ x, foldedSetIterable iter X.env x = pure x := by intro _; rfl) :
    DE X B h (.ListComp elt [⟨.Name n tpos, iter, [], 0⟩] scope pos) ss (.list (as.map out)) := by
  have := de_lcF (pos := pos) (ifs := []) (p := fun _ : α => true) j hc hN hi ok (fun a ha D s H C cl fp => rfl) (fun a ha _ => el a ha) hz nf (by decide) hg hs
  have e : as.filter (fun _ : α => true) = as := List.filter_eq_self.mpr fun _ _ => rfl
  rwa [e] at this
end

/-! ### == and in, on ints and lots -/
theorem eqv_int (i j : Int) : PyData.eqv (.int i) (.int j) = decide (i = j) := by
  simp only [PyData.eqv]
  exact Bool.beq_eq_decide_eq i j
theorem eqvAll_ints : ∀ (a b : List Int), PyData.eqvAll (a.map .int) (b.map .int) = decide (a = b)
  | [], [] => by simp [PyData.eqvAll]
  | [], _ :: _ => by simp [PyData.eqvAll]
  | _ :: _, [] => by simp [PyData.eqvAll]
  | x :: a, y :: b => by
    simp only [List.map_cons, PyData.eqvAll, eqv_int, eqvAll_ints a b, List.cons.injEq]
    by_cases h1 : x = y <;> by_cases h2 : a = b <;> simp [h1, h2]
theorem eqv_tI (a b : List Int) : PyData.eqv (tI a) (tI b) = decide (a = b) := by
  simp only [tI, PyData.eqv]
  exact eqvAll_ints a b
theorem eqv_lI (a b : List Int) : PyData.eqv (lI a) (lI b) = decide (a = b) := by
  simp only [lI, PyData.eqv]
  exact eqvAll_ints a b
theorem eqvAll_nil {ds : List PyData} : PyData.eqvAll ds [] = decide (ds = []) := by
  cases ds with
  | nil => simp [PyData.eqvAll]
  | cons d ds => simp [PyData.eqvAll]
theorem any_of {α : Type} [DecidableEq α] {enc : α → PyData} (he : ∀ a b, PyData.eqv (enc a) (enc b) = decide (a = b)) {ns : List α} {i : α} : ((ns.map enc).any fun z => PyData.eqv z (enc i)) = decide (i ∈ ns) := by
  induction ns with
  | nil => rfl
  | cons n ns ih =>
    rw [List.map_cons, List.any_cons, ih, he]
    by_cases q : n = i
    · subst q
      simp
    · have : ¬ i = n := fun z => q z.symm
      simp [q, this]
theorem any_int {ns : List Int} {i : Int} : ((ns.map PyData.int).any fun z => PyData.eqv z (.int i)) = decide (i ∈ ns) := any_of (enc := .int) eqv_int
theorem any_tI {ks : List (List Int)} {k : List Int} : ((ks.map tI).any fun z => PyData.eqv z (tI k)) = decide (k ∈ ks) := (any_of eqv_tI).trans (decide_eq_decide.mpr Iff.rfl)
theorem eqv_nil {ds : List PyData} : PyData.eqv (.list ds) (lI []) = decide (ds = []) := by
  simp only [lI, List.map_nil, PyData.eqv]
  exact eqvAll_nil
theorem shaped_of {d : PyData} (h1 : d.canLay0 = true) (h2 : d.depth ≤ 64) : SeqAt.shaped d = true := by
  unfold SeqAt.shaped
  rw [h1, decide_eq_true h2]
  rfl
theorem shp_int {i : Int} : SeqAt.shaped (.int i) = true := shaped_of (by simp [PyData.canLay0]) (by simp [PyData.depth])
theorem shp_lI {ns : List Int} : SeqAt.shaped (lI ns) = true := shaped_of (by simp only [lI, PyData.canLay0]; exact lay_ints ns) (by have := depth_ints ns; simp only [lI, PyData.depth]; omega)
theorem shp_tI {ns : List Int} : SeqAt.shaped (tI ns) = true := shaped_of (lay_tI ns) (by have := depth_tI ns; omega)
theorem depth_tIs : ∀ (ks : List (List Int)), PyData.depthAll (ks.map tI) ≤ 3
  | [] => by simp [PyData.depthAll]
  | k :: ks => by
    have := depth_tIs ks
    have := depth_tI k
    simp only [List.map_cons, PyData.depthAll]
    omega
theorem shp_lTs {ks : List (List Int)} : SeqAt.shaped (lTs ks) = true := shaped_of (by simp only [lTs, PyData.canLay0]; exact lay_tIs ks) (by have := depth_tIs ks; simp only [lTs, PyData.depth]; omega)
section
variable {X : Cx} {B : Bs} {h : List Addr} {ss : List Sl} {a b : Expr} {x y : PyData} {ns : List Int} {i : Int} {ks : List (List Int)} {k : List Int} {kd : Nat}
theorem hu65 (hr : Room kd X.A) : X.A.units + 65 < cLine := by have := hr.un; omega
theorem dc_inI (hr : Room kd X.A) (q : isSq (ns.map .int) y) (ha : DE X B h a ss (.int i)) (hb : DE X B h b ss y) : DC X B h .In a b ss (decide (i ∈ ns)) := (dc_in (hu65 hr) q shp_int shp_lI ha hb).eq any_int
theorem dc_ninI (hr : Room kd X.A) (q : isSq (ns.map .int) y) (ha : DE X B h a ss (.int i)) (hb : DE X B h b ss y) : DC X B h .NotIn a b ss (!decide (i ∈ ns)) := (dc_notIn (hu65 hr) q shp_int shp_lI ha hb).eq (by rw [any_int])
theorem dc_inL (hr : Room kd X.A) (q : isSq (ks.map tI) y) (ha : DE X B h a ss (tI k)) (hb : DE X B h b ss y) : DC X B h .In a b ss (decide (k ∈ ks)) := (dc_in (hu65 hr) q shp_tI shp_lTs ha hb).eq any_tI
theorem dc_ninL (hr : Room kd X.A) (q : isSq (ks.map tI) y) (ha : DE X B h a ss (tI k)) (hb : DE X B h b ss y) : DC X B h .NotIn a b ss (!decide (k ∈ ks)) := (dc_notIn (hu65 hr) q shp_tI shp_lTs ha hb).eq (by rw [any_tI])
/-- != [] -/
theorem dc_neNil {ds : List PyData} (hr : Room kd X.A) (sx : SeqAt.shaped (.list ds) = true) (ha : DE X B h a ss (.list ds)) (hb : DE X B h b ss (.list [])) : DC X B h .NotEq a b ss (!decide (ds = [])) :=
  (dc_neD hr.units sx (shp_lI (ns := [])) ha hb).eq (by rw [eqv_nil])
theorem dc_eqNil {ds : List PyData} (hr : Room kd X.A) (sx : SeqAt.shaped (.list ds) = true) (ha : DE X B h a ss (.list ds)) (hb : DE X B h b ss (.list [])) : DC X B h .Eq a b ss (decide (ds = [])) :=
  (dc_eqD hr.units sx (shp_lI (ns := [])) ha hb).eq eqv_nil
theorem dc_eqLI {ms : List Int} (hr : Room kd X.A) (ha : DE X B h a ss (lI ns)) (hb : DE X B h b ss (lI ms)) : DC X B h .Eq a b ss (decide (ns = ms)) := (dc_eqD hr.units shp_lI shp_lI ha hb).eq (eqv_lI _ _)
theorem dc_neT {ms : List Int} (hr : Room kd X.A) (ha : DE X B h a ss (tI ns)) (hb : DE X B h b ss (tI ms)) : DC X B h .NotEq a b ss (!decide (ns = ms)) := (dc_neD hr.units shp_tI shp_tI ha hb).eq (by rw [eqv_tI])
end
end F26

/-! loops, with slots forgotten at each turn's end -/
namespace F26
open PySem PySem.Spec L2

section
variable {X : Cx} {B : Bs} {h : List Addr} {ss : List Sl} {iter tg : Expr} {body : List Stmt} {pos tpos p : Pos} {N : List Sl → Prop} {R : List Sl → PyData → Prop} {n m : Str} {α : Type} {as : List α} {enc : α → PyData}
theorem wipeS_at {ss : List Sl} {i : Nat} {x : Sl} : ∀ {vs : List Nat}, (wipeS ss vs)[i]? = some x → x = .u ∨ ss[i]? = some x
  | [], e => .inr e
  | v :: vs, e => by
    change ((wipeS ss vs).set v .u)[i]? = some x at e
    by_cases hv : v = i
    · subst hv
      by_cases hl : v < (wipeS ss vs).length
      · rw [List.getElem?_set_self hl] at e
        exact .inl (Option.some.inj e).symm
      · rw [List.getElem?_eq_none (by rw [List.length_set]; omega)] at e
        cases e
    · rw [List.getElem?_set_ne hv] at e
      exact wipeS_at e
theorem wss_wipe (js : List Nat) (w : WSs X B h body ss (fun s => N (wipeS s js)) R) : WSs X B h body ss N R := fun σ H D en k1 k2 =>
  w σ H D en (fun σ' H' s' ke e q => by
    have e' : En X.K B h H' σ' (wipeS s' js) := e.weak (by rw [wipeS_len]; exact e.len) fun i x hi => (wipeS_at hi).imp id fun z => ⟨z, rfl⟩
    exact k1 σ' H' _ (ke.trans (.of (Kp.refl _) fun p ⟨i, ds, z⟩ => (wipeS_at z).elim (fun y => by cases y) fun y => ⟨i, ds, y⟩) e') e' q) k2
theorem no_nil : noOwn [] := fun p ⟨i, ds, e⟩ => by simp at e
theorem no_cons {x : Sl} {s : List Sl} (hx : ∀ p ds, x ≠ .l p ds) (hs : noOwn s) : noOwn (x :: s) := fun p ⟨i, ds, e⟩ => by
  cases i with
  | zero =>
    simp only [List.getElem?_cons_zero, Option.some.injEq] at e
    exact hx p ds e
  | succ i => exact hs p ⟨i, ds, by simpa using e⟩
/-- over known data: I the slots ahead of turn i, js the slots forgotten at its end -/
theorem ws_forN (j : Nat) (js : List Nat) (I : Nat → List Sl → Prop) (hp : PassesOwn (model X.prog X.w) X.A X.env X.xe) (hc : X.calm = true) (hi : DI X B h (.Name n tpos) iter ss (as.map enc)) (hg : PG X (.Name n tpos) (gName j))
    (no : ∀ i s, I i s → noOwn s) (i0 : I 0 ss) (turn : ∀ i a s, as[i]? = some a → I i s → WSs X B h body (s.set j (.d (enc a))) (fun s' => I (i + 1) (wipeS s' js)) R) (k : ∀ s, I as.length s → N s)
    (hs : ∀ x, foldedSetIterable iter X.env x = pure x := by intro _; rfl) : WS X B h (.For (.Name n tpos) iter body [] pos) ss N R :=
  ws_for (P := fun ds => ds = as.map enc) (T := tName j) (vs := [j]) (fun _ => I) hp hc hi hg tg_name to_name (fun _ i s _ => no i s) (fun _ _ => i0) (fun ds i d s pd hd is => by
    subst pd
    obtain ⟨a, ha, rfl⟩ := map_get hd
    exact ⟨⟨_, rfl⟩, fun s' t => by rw [show s' = _ from t]; exact wss_wipe js (turn i a s ha is)⟩) (fun ds s pd is => k s (by rw [pd, List.length_map] at is; exact is)) hs
theorem enum_get {i : Nat} {d : PyData} (e : (enumD (as.map enc))[i]? = some d) : ∃ a, as[i]? = some a ∧ d = .tuple [.int (i : Nat), enc a] := by
  obtain ⟨x, hx, rfl⟩ := enumD_get e
  obtain ⟨a, ha, rfl⟩ := map_get hx
  exact ⟨a, ha, rfl⟩
/-- over enumerate of known data -/
theorem ws_forP (j l : Nat) (js : List Nat) (I : Nat → List Sl → Prop) {kk : Nat} {p1 p2 : Pos} (hjl : j ≠ l) (hp : PassesOwn (model X.prog X.w) X.A X.env X.xe) (hc : X.calm = true) (hi : DI X B h (.Tuple [.Name n p1, .Name m p2] kk tpos) iter ss (enumD (as.map enc)))
    (hg : PG X (.Tuple [.Name n p1, .Name m p2] kk tpos) (gTup X.K 2 (gCons (gName j) (gCons (gName l) gNil))))
    (no : ∀ i s, I i s → noOwn s) (i0 : I 0 ss) (turn : ∀ i a s, as[i]? = some a → I i s → WSs X B h body ((s.set j (.d (.int (i : Nat)))).set l (.d (enc a))) (fun s' => I (i + 1) (wipeS s' js)) R) (k : ∀ s, I as.length s → N s)
    (hs : ∀ x, foldedSetIterable iter X.env x = pure x := by intro _; rfl) : WS X B h (.For (.Tuple [.Name n p1, .Name m p2] kk tpos) iter body [] pos) ss N R :=
  ws_for (P := fun ds => ds = enumD (as.map enc)) (T := tPair j l) (vs := [j, l]) (fun _ => I) hp hc hi hg (tg_pair hjl) to_pair (fun _ i s _ => no i s) (fun _ _ => i0) (fun ds i d s pd hd is => by
    subst pd
    obtain ⟨a, ha, rfl⟩ := enum_get hd
    exact ⟨⟨_, _, _, rfl, rfl⟩, fun s' ⟨x, y, e, t⟩ => by
      cases e
      rw [t]
      exact wss_wipe js (turn i a s ha is)⟩) (fun ds s pd is => k s (by rw [pd, enumD_len, List.length_map] at is; exact is)) hs
theorem ws_forRN {mm : Nat} {lo : Int} (j : Nat) (js : List Nat) (I : Nat → List Sl → Prop) (hp : PassesOwn (model X.prog X.w) X.A X.env X.xe) (hc : X.calm = true) (hi : WR X B h tg iter ss lo mm) (hg : PG X tg (gName j))
    (i0 : I 0 ss) (turn : ∀ i s, i < mm → I i s → WSs X B h body (s.set j (.d (.int (lo + (i : Nat))))) (fun s' => I (i + 1) (wipeS s' js)) R) (k : ∀ s, I mm s → N s)
    (hs : ∀ x, foldedSetIterable iter X.env x = pure x := by intro _; rfl) : WS X B h (.For tg iter body [] pos) ss N R :=
  ws_forR I hp hc hi hg i0 (fun i s hi is => wss_wipe js (turn i s hi is)) k hs
end

/-! ### the first walks -/
def bitsOf (lot : List Int) : Int := lot.foldl (fun b l => Builtin.bitOr b (1 * 2 ^ l.toNat)) 0
def small (lot : List Int) : Prop := ∀ l ∈ lot, 0 ≤ l ∧ l < 64
theorem bitsOf_take {lot : List Int} {i : Nat} {l : Int} (h : lot[i]? = some l) : bitsOf (lot.take (i + 1)) = Builtin.bitOr (bitsOf (lot.take i)) (1 * 2 ^ l.toNat) := by
  unfold bitsOf
  rw [List.take_add_one, h, List.foldl_append]
  rfl
def pmBits : List PyData → (PyData → Prop) → Prop := fun ds R => ∃ lot, ds = [tI lot] ∧ small lot ∧ R (.int (bitsOf lot))
def goB (a b : Int) : Bool := decide (Builtin.bitAnd a b ∈ [0, a, b])
def pmGo : List PyData → (PyData → Prop) → Prop := fun ds R => ∃ a b, ds = [.int a, .int b] ∧ R (.bool (goB a b))
def pmGoT : List PyData → (PyData → Prop) → Prop := fun ds R => ∃ a b, ds = [tI a, tI b] ∧ small a ∧ small b ∧ R (.bool (goB (bitsOf a) (bitsOf b)))
def crossB (a b : Int) : Bool := !decide (Builtin.bitAnd a b = 0) && (!decide (Builtin.bitAnd a b = a) && !decide (Builtin.bitAnd a b = b))
def pmCross : List PyData → (PyData → Prop) → Prop := fun ds R => ∃ a b, ds = [.int a, .int b] ∧ R (.bool (crossB a b))
section
variable {P : Program} {w : World} {K : PySem.W.Frag} {mg : Str → Option Value} {base : Heap} {f : Addr} {fd : FuncData}
theorem pow1 {l : Int} (h : 0 ≤ l ∧ l < 64) : CPow 1 l := ⟨h.1, by omega, by decide⟩
theorem sc5 : FnScope ["lot", "bits", "leaf"] ["lot"] (defScope (top 5)) := ⟨rfl, rfl, rfl, by decide +kernel, rfl, by decide +kernel, by decide +kernel⟩
theorem ok5 (F : Fun K "bits_of" "bits_of" (top 5) f fd) : FnV false P w K mg base CX0 1 f fd ["lot"] (spP pmBits) := by
  refine fnG F sc5 (fun ds R ⟨lot, e, _⟩ => by rw [e]; rfl) (by decide) fun X H h ds R hX ⟨lot, ed, hs, hR⟩ => ?_
  obtain ⟨f, cdv, A, outer, s, H0, E, rfl, hr, gd⟩ := hX
  subst ed
  refine wss_cons (N1 := fun s => s = [.d (tI lot), .d (.int 0), .u]) (ws_set 1 de_int (fun d e => by rw [e]; rfl) sc5.nd) fun s e => ?_
  subst e
  refine wss_cons (N1 := fun s => s = [.d (tI lot), .d (.int (bitsOf lot)), .u]) (ws_forN (as := lot) (enc := .int) 2 [2] (fun i s => s = [.d (tI lot), .d (.int (bitsOf (lot.take i))), .u]) PassesOwn.never rfl (di_tup (de_var 0)) (pg_name sc5.nd rfl (Or.inl rfl))
    (fun i s e => by rw [e]; exact no_cons nofun (no_cons nofun (no_cons nofun no_nil))) rfl (fun i a s ha e => ?_) (fun s e => by rw [e, List.take_length])) fun s e => ?_
  · subst e
    exact wss_one (ws_set 1 (de_or (de_var 1) (de_shl de_int (de_var 2) (pow1 (hs a (List.mem_of_getElem? ha))))) (fun d e => by rw [e, ← bitsOf_take ha]; rfl) sc5.nd)
  · subst e
    exact wss_one (ws_ret (de_var 1) fun d e => by rw [e]; exact hR)
theorem sc7 : FnScope ["bits", "other", "both"] ["bits", "other"] (defScope (top 7)) := ⟨rfl, rfl, rfl, by decide +kernel, rfl, by decide +kernel, by decide +kernel⟩
theorem ok7 (F : Fun K "bits_cross" "bits_cross" (top 7) f fd) : FnV false P w K mg base CX0 1 f fd ["bits", "other"] (spP pmCross) := by
  refine fnG F sc7 (fun ds R ⟨a, b, e, _⟩ => by rw [e]; rfl) (by decide) fun X H h ds R hX ⟨a, b, ed, hR⟩ => ?_
  obtain ⟨f, cdv, A, outer, s, H0, E, rfl, hr, gd⟩ := hX
  subst ed
  refine wss_cons (N1 := fun s => s = [.d (.int a), .d (.int b), .d (.int (Builtin.bitAnd a b))]) (ws_set 2 (de_and (de_var 0) (de_var 1)) (fun d e => by rw [e]; rfl) sc7.nd) fun s e => ?_
  subst e
  exact wss_one (ws_ret (de_andV (de_c (dc_neI (de_var 2) de_int)) fun _ => de_andV (de_c (dc_neI (de_var 2) (de_var 0))) fun _ => de_andV1 (de_c (dc_neI (de_var 2) (de_var 1)))) fun d e => by rw [e]; exact hR)
theorem sc11 : FnScope ["bits", "other"] ["bits", "other"] (defScope (top 11)) := ⟨rfl, rfl, rfl, by decide +kernel, rfl, by decide +kernel, by decide +kernel⟩
theorem ok11 (F : Fun K "bits_go_together" "bits_go_together" (top 11) f fd) : FnV false P w K mg base CX0 1 f fd ["bits", "other"] (spP pmGo) := by
  refine fnG F sc11 (fun ds R ⟨a, b, e, _⟩ => by rw [e]; rfl) (by decide) fun X H h ds R hX ⟨a, b, ed, hR⟩ => ?_
  obtain ⟨f, cdv, A, outer, s, H0, E, rfl, hr, gd⟩ := hX
  subst ed
  exact wss_one (ws_ret (de_c (dc_inI hr (ns := [0, a, b]) isq_t (de_and (de_var 0) (de_var 1)) (de_tup (da_cons de_int (da_cons (de_var 0) (da_cons (de_var 1) wa_nil)))))) fun d e => by rw [e]; exact hR)
theorem sc43 : FnScope ["_law_one", "_law_two"] ["_law_one", "_law_two"] (defScope (top 43)) := ⟨rfl, rfl, rfl, by decide +kernel, rfl, by decide +kernel, by decide +kernel⟩
theorem ok43 (F : Fun K "_law_goes" "_law_goes" (top 43) f fd) : FnV false P w K mg base CX0 1 f fd ["_law_one", "_law_two"] (spP pmGo) := by
  refine fnG F sc43 (fun ds R ⟨a, b, e, _⟩ => by rw [e]; rfl) (by decide) fun X H h ds R hX ⟨a, b, ed, hR⟩ => ?_
  obtain ⟨f, cdv, A, outer, s, H0, E, rfl, hr, gd⟩ := hX
  subst ed
  exact wss_one (ws_ret (de_c (dc_inI hr (ns := [0, a, b]) isq_t (de_and (de_var 0) (de_var 1)) (de_tup (da_cons de_int (da_cons (de_var 0) (da_cons (de_var 1) wa_nil)))))) fun d e => by rw [e]; exact hR)
theorem sc12 : FnScope ["halving", "other"] ["halving", "other"] (defScope (top 12)) := ⟨rfl, rfl, rfl, by decide +kernel, rfl, by decide +kernel, by decide +kernel⟩
theorem ok12 (F : Fun K "go_together" "go_together" (top 12) f fd) (c5 : Cl false P w K mg base 1 "bits_of" (spP pmBits)) (c11 : Cl false P w K mg base 1 "bits_go_together" (spP pmGo)) : FnV false P w K mg base CX0 2 f fd ["halving", "other"] (spP pmGoT) := by
  refine fnG F sc12 (fun ds R ⟨a, b, e, _⟩ => by rw [e]; rfl) (by decide) fun X H h ds R hX ⟨a, b, ed, ha, hb, hR⟩ => ?_
  obtain ⟨f, cdv, A, outer, s, H0, E, rfl, hr, gd⟩ := hX
  subst ed
  exact wss_one (ws_ret (we_call c11 hr (by decide) rfl (da_cons (we_call c5 hr (by decide) rfl (da_cons (de_var 0) wa_nil) fun ds e => ⟨a, e, ha, rfl⟩) (da_cons (we_call c5 hr (by decide) rfl (da_cons (de_var 1) wa_nil) fun ds e => ⟨b, e, hb, rfl⟩) wa_nil)) fun ds e => ⟨_, _, e, hR⟩) fun d e => e)
end
end F26

/-! names of lists made; walks: keys, order, halvings -/
namespace F26
open PySem PySem.Spec L2

section
variable {X : Cx} {B : Bs} {h : List Addr} {ss : List Sl} {elt iter : Expr} {ifs : List Expr} {scope : Scope} {pos tpos spos py : Pos} {n y : Str} {α : Type} {as : List α} {enc out : α → PyData} {p : α → Bool} {N : List Sl → Prop} {R : List Sl → PyData → Prop}
/-- y = [elt for n in iter if ..] -/
theorem ws_lcN (i j : Nat) (hc : X.calm = true) (hN : X.N.Nodup) (hi : DI X B h (.Name n tpos) iter ss (as.map enc)) (ok : BlkOk X.N X.env.scope scope [(n, j)])
    (tst : ∀ a ∈ as, ∀ (D : Addr) (s : Shared) (H : Hp) (C : Addr) (cl : List (Str × Addr)) (fp : List Addr), WTs (Blk X scope s H C cl fp) B (D :: h) ifs (ss.set j (.d (enc a))) (fun b => b = p a))
    (el : ∀ a ∈ as, p a = true → ∀ (D : Addr) (s : Shared) (H : Hp) (C : Addr) (cl : List (Str × Addr)) (fp : List Addr), DE (Blk X scope s H C cl fp) B (D :: h) elt (ss.set j (.d (enc a))) (out a))
    (hz : as.length ≤ 1000) (k : N (ss.set i (.d (.list ((as.filter p).map out))))) (nf : nofS ss [j] = true := by rfl) (hl : ifs.length ≤ 1 := by decide)
    (hy : X.N[i]? = some y := by rfl) (hyl : X.env.scope.names.lookup y = some .local := by rfl)
    (hsw : swapsWith (.ListComp elt [⟨.Name n tpos, iter, ifs, 0⟩] scope pos) (some (.Name y py)) spos.line X.env = pure true := by exact sw_true rfl rfl rfl (by decide +kernel))
    (hg : ∀ (s : Shared) (H : Hp) (C : Addr) (cl : List (Str × Addr)) (fp : List Addr), PG (Blk X scope s H C cl fp) (.Name n tpos) (gName j) := by exact fun s H C cl fp => pg_name (by assumption) rfl (by first | exact Or.inl rfl | exact Or.inr rfl))
    (hs : ∀ x, foldedSetIterable iter X.env x = pure x := by intro _; rfl) :
    WS X B h (.Assign [.Name y py] (.ListComp elt [⟨.Name n tpos, iter, ifs, 0⟩] scope pos) spos) ss N R :=
  ws_setLc (P := fun ds => ds = as.map enc) (T := tName j) (own := [(n, j)]) i (fun ds i acc => acc = accF as p out i) hc hN hi ok hg hl tg_name tk_name nf (fun ds e => by rw [e, List.length_map]; exact hz) (fun ds _ => by unfold accF; simp) (fun ds i d acc pd hd ia => by
    subst pd
    obtain ⟨a, ha, rfl⟩ := map_get hd
    refine ⟨⟨_, rfl⟩, fun ss' t => ?_⟩
    have t' : ss' = ss.set j (.d (enc a)) := by
      rw [show ss' = ((ss.set j .u).set j (.d (enc a))) from t, List.set_set]
    subst t' ia
    exact lct_of (tst a (List.mem_of_getElem? ha)) (el a (List.mem_of_getElem? ha)) (fun z => (accF_no ha z).symm) fun z => (accF_yes ha z).symm)
    (fun ds acc e1 _ e3 => by rw [e3, e1, List.length_map, accF_all]; exact k) hy hyl hsw hs
/-- the list is an own one -/
theorem ws_lcO (i j : Nat) (hc : X.calm = true) (hN : X.N.Nodup) (hi : DI X B h (.Name n tpos) iter ss (as.map enc)) (ok : BlkOk X.N X.env.scope scope [(n, j)])
    (tst : ∀ a ∈ as, ∀ (D : Addr) (s : Shared) (H : Hp) (C : Addr) (cl : List (Str × Addr)) (fp : List Addr), WTs (Blk X scope s H C cl fp) B (D :: h) ifs (ss.set j (.d (enc a))) (fun b => b = p a))
    (el : ∀ a ∈ as, p a = true → ∀ (D : Addr) (s : Shared) (H : Hp) (C : Addr) (cl : List (Str × Addr)) (fp : List Addr), DE (Blk X scope s H C cl fp) B (D :: h) elt (ss.set j (.d (enc a))) (out a))
    (hz : as.length ≤ 1000) (nl : ∀ a, nl (out a) = true) (k : ∀ L, N (ss.set i (.l L ((as.filter p).map out)))) (nf : nofS ss [j] = true := by rfl) (hl : ifs.length ≤ 1 := by decide)
    (hy : X.N[i]? = some y := by rfl) (hyl : X.env.scope.names.lookup y = some .local := by rfl)
    (hsw : swapsWith (.ListComp elt [⟨.Name n tpos, iter, ifs, 0⟩] scope pos) (some (.Name y py)) spos.line X.env = pure true := by exact sw_true rfl rfl rfl (by decide +kernel))
    (hg : ∀ (s : Shared) (H : Hp) (C : Addr) (cl : List (Str × Addr)) (fp : List Addr), PG (Blk X scope s H C cl fp) (.Name n tpos) (gName j) := by exact fun s H C cl fp => pg_name (by assumption) rfl (by first | exact Or.inl rfl | exact Or.inr rfl))
    (hs : ∀ x, foldedSetIterable iter X.env x = pure x := by intro _; rfl) :
    WS X B h (.Assign [.Name y py] (.ListComp elt [⟨.Name n tpos, iter, ifs, 0⟩] scope pos) spos) ss N R :=
  ws_setLcF (P := fun ds => ds = as.map enc) (T := tName j) (own := [(n, j)]) i (fun ds i acc => acc = accF as p out i) hc hN hi ok hg hl tg_name tk_name nf (fun ds e => by rw [e, List.length_map]; exact hz) (fun ds _ => by unfold accF; simp) (fun ds i d acc pd hd ia => by
    subst pd
    obtain ⟨a, ha, rfl⟩ := map_get hd
    refine ⟨⟨_, rfl⟩, fun ss' t => ?_⟩
    have t' : ss' = ss.set j (.d (enc a)) := by
      rw [show ss' = ((ss.set j .u).set j (.d (enc a))) from t, List.set_set]
    subst t' ia
    exact lct_of (tst a (List.mem_of_getElem? ha)) (el a (List.mem_of_getElem? ha)) (fun z => (accF_no ha z).symm) fun z => (accF_yes ha z).symm)
    (fun ds acc e1 e3 => by
      rw [e3, e1, List.length_map, accF_all]
      induction as.filter p with
      | nil => rfl
      | cons a r ih =>
        show (F26.nl (out a) && nlAll (r.map out)) = true
        rw [nl a, ih]
        rfl)
    (fun ds acc L e1 _ e3 => by rw [e3, e1, List.length_map, accF_all]; exact k L) hy hyl hsw hs
end
section
variable {P : Program} {w : World} {K : PySem.W.Frag} {mg : Str → Option Value} {base : Heap} {f : Addr} {fd : FuncData}
theorem key6 (F : Fun K "lot_key" "lot_key" (top 6) f fd) (hm : mg "lot_key" = some (.ref f)) (bm : Bi mg) : KeyCl P w K mg base "lot_key" f := by
  refine ⟨hm, fun A s a its ds M kb hr ht rd hz hl => ?_⟩
  exact rank_pure (x := "lot") F M kb rfl rfl rfl rfl rfl rfl rfl (F.binds fun _ _ _ _ _ _ us hl => match us, hl with | [_], _ => rfl) (bm _ (by decide)) hr ht rd hz hl
theorem key38 (F : Fun K "_law_rank" "_law_rank" (top 38) f fd) (hm : mg "_law_rank" = some (.ref f)) (bm : Bi mg) : KeyCl P w K mg base "_law_rank" f := by
  refine ⟨hm, fun A s a its ds M kb hr ht rd hz hl => ?_⟩
  exact rank_pure (x := "_law_part_here") F M kb rfl rfl rfl rfl rfl rfl rfl (F.binds fun _ _ _ _ _ _ us hl => match us, hl with | [_], _ => rfl) (bm _ (by decide)) hr ht rd hz hl
/-- lots without doubles, by size -/
def inOrd (ks : List (List Int)) : List (List Int) := (ddK ks).mergeSort leR
def fits (ks : List (List Int)) : Prop := ks.length ≤ 500 ∧ ∀ k ∈ ks, k.length ≤ 500
theorem mem_addK {acc : List (List Int)} {k x : List Int} : x ∈ addK acc k ↔ x ∈ acc ∨ x = k := by
  unfold addK
  split
  · rename_i h
    constructor
    · exact .inl
    · rintro (z | z)
      · exact z
      · rw [z]; exact h
  · simp
theorem mem_foldK : ∀ (ks acc : List (List Int)) (x : List Int), x ∈ ks.foldl addK acc ↔ x ∈ acc ∨ x ∈ ks
  | [], acc, x => by simp
  | k :: ks, acc, x => by
    show x ∈ ks.foldl addK (addK acc k) ↔ _
    rw [mem_foldK ks, mem_addK, List.mem_cons, or_assoc]
theorem mem_ddK {ks : List (List Int)} {x : List Int} : x ∈ ddK ks ↔ x ∈ ks := by
  unfold ddK
  rw [mem_foldK]
  simp
def pmOrd : List PyData → (PyData → Prop) → Prop := fun ds R => ∃ ks, ds = [lTs ks] ∧ fits ks ∧ R (tTs (inOrd ks))
theorem sc8 : FnScope ["lots", "lot"] ["lots"] (defScope (top 8)) := ⟨rfl, rfl, rfl, by decide +kernel, rfl, by decide +kernel, by decide +kernel⟩
theorem ok8 (F : Fun K "in_order" "in_order" (top 8) f fd) (bm : Bi mg) {fk : Addr} (kc : KeyCl P w K mg base "lot_key" fk) : FnV false P w K mg base CX0 4 f fd ["lots"] (spP pmOrd) := by
  refine fnG F sc8 (fun ds R ⟨a, e, _⟩ => by rw [e]; rfl) (by decide) fun X H h ds R hX ⟨ks, ed, hz, hR⟩ => ?_
  obtain ⟨f, cdv, A, outer, s, H0, E, rfl, hr, gd⟩ := hX
  subst ed
  have hN := sc8.nd
  refine wss_one (ws_ret (we_tuple (R := R) rfl (bm _ (by decide)) (de_sortK kc hr rfl (bm _ (by decide)) rfl (WE.of (de_listT rfl rfl (bm _ (by decide)) (de_dictT (ks := ks) hr rfl (bm _ (by decide)) (by have := hz.1; omega) ?_)) ?_))) fun d q => q)
  · exact de_lcM (as := ks) (enc := tI) (out := pTD) 1 rfl hN (di_list (de_var 0)) (blkOk_by rfl) (fun a ha D s H C cl fp => de_tup (da_cons (de_var 1) (da_cons de_bl wa_nil))) (by have := hz.1; omega)
  · exact ⟨ddK ks, rfl, by have := ddK_len ks; have := hz.1; omega, fun k hk => by have := hz.2 k (mem_ddK.mp hk); omega, _, .inl rfl, hR⟩
def pmHalf : List PyData → (PyData → Prop) → Prop := fun ds R => ∃ (n : Int) (x : Int) (r : List Int), ds = [.int n, tI (x :: r)] ∧ x ≠ 0 ∧ 1 ≤ r.length ∧ (r.length : Int) + 3 ≤ n ∧ R (tI (x :: r))
theorem sc10 : FnScope ["size", "lot", "leaf"] ["size", "lot"] (defScope (top 10)) := ⟨rfl, rfl, rfl, by decide +kernel, rfl, by decide +kernel, by decide +kernel⟩
theorem ok10 (F : Fun K "halving_of" "halving_of" (top 10) f fd) (bm : Bi mg) : FnV false P w K mg base CX0 1 f fd ["size", "lot"] (spP pmHalf) := by
  refine fnG F sc10 (fun ds R ⟨n, x, r, e, _⟩ => by rw [e]; rfl) (by decide) fun X H h ds R hX ⟨n, x, r, ed, hx, h1, h2, hR⟩ => ?_
  obtain ⟨f, cdv, A, outer, s, H0, E, rfl, hr, gd⟩ := hX
  subst ed
  have lz : ((x :: r).map PyData.int).length = r.length + 1 := by simp
  refine wss_cons (N1 := fun s => s = [.d (.int n), .d (tI (x :: r)), .u]) (ws_if (dt_or (dt_c (dc_lt (de_len rfl (bm _ (by decide)) isq_t (de_var 1)) de_int)) fun _ => dt_c (dc_lt (de_sub (de_var 0) (de_len rfl (bm _ (by decide)) isq_t (de_var 1))) de_int)) (fun e => ?_) fun _ => wss_nil rfl) fun s e => ?_
  · exfalso
    rw [lz] at e
    have e1 : ¬ (((r.length + 1 : Nat) : Int) < 2) := by omega
    have e2 : ¬ (n - ((r.length + 1 : Nat) : Int) < 2) := by omega
    rw [decide_eq_false e1, decide_eq_false e2] at e
    cases e
  · subst e
    refine wss_cons (N1 := fun _ => False) (ws_if (dt_c (dc_neI (de_ix (n := 0) isq_t (de_var 1) de_int rfl rfl) de_int)) (fun _ => wss_one (ws_ret (de_var 1) fun d e => by rw [e]; exact hR)) fun e => ?_) fun s e => e.elim
    exfalso
    rw [decide_eq_false hx] at e
    cases e
end
end F26

/-! walks: first_cross, part_without, finer_web, nest_bits, need_one_size, finer_pair -/
namespace F26
open PySem PySem.Spec L2

section
variable {X : Cx} {B : Bs} {h : List Addr} {ss : List Sl} {tg a b : Expr} {p pos : Pos}
theorem wr1 {n : Int} (m : Nat) (hg : Gl X "range") (hm : X.mg "range" = none) (w : DE X B h a ss (.int n)) (e : n = (m : Int)) (hz : m ≤ 100000) (hs : starEach [a] X.env = [(false, eval a X.env)] := by rfl) : WR X B h tg (.Call (.Name "range" p) [a] [] pos) ss 0 m := by
  have := wr_1 (tg := tg) (p := p) (pos := pos) hg hm w (by omega) (by omega) hs
  rw [show n.toNat = m by omega] at this
  exact this
theorem wr2 {lo n : Int} (m : Nat) (hg : Gl X "range") (hm : X.mg "range" = none) (w : DE X B h a ss (.int lo)) (w2 : DE X B h b ss (.int n)) (e : (n - lo).toNat = m) (h1 : -100000 ≤ lo) (h2 : lo ≤ 100000) (h3 : -100000 ≤ n) (h4 : n ≤ 100000)
    (hs : starEach [a, b] X.env = [(false, eval a X.env), (false, eval b X.env)] := by rfl) (hs2 : starEach [b] X.env = [(false, eval b X.env)] := by rfl) (hs3 : starEach (a :: [b]) X.env = (false, eval a X.env) :: starEach [b] X.env := by rfl) (hs4 : starEach (b :: []) X.env = (false, eval b X.env) :: starEach [] X.env := by rfl) :
    WR X B h tg (.Call (.Name "range" p) [a, b] [] pos) ss lo m := by
  have := wr_2 (tg := tg) (p := p) (pos := pos) hg hm w w2 ⟨by omega, by omega, by omega, by omega⟩ hs hs2 hs3 hs4
  rw [e] at this
  exact this
end
theorem ml {α β : Type} {g : α → β} {l : List α} {n : Nat} (h : l.length ≤ n) : (l.map g).length ≤ n := by rw [List.length_map]; exact h
theorem mget {α β : Type} {g : α → β} {l : List α} {i : Nat} {x : α} (h : l[i]? = some x) : (l.map g)[i]? = some (g x) := by rw [List.getElem?_map, h]; rfl
section
variable {P : Program} {w : World} {K : PySem.W.Frag} {mg : Str → Option Value} {base : Heap} {f : Addr} {fd : FuncData}
/-- none of the pairs ahead of (i, j) crosses -/
def NoneB (ms : List Int) (i j : Nat) : Prop := (∀ (a b : Nat) (x y : Int), a < i → a < b → ms[a]? = some x → ms[b]? = some y → goB x y = true) ∧ ∀ (b : Nat) (x y : Int), i < b → b < j → ms[i]? = some x → ms[b]? = some y → goB x y = true
def FirstX (ms : List Int) (i j : Nat) : Prop := NoneB ms i j ∧ i < j ∧ ∃ x y, ms[i]? = some x ∧ ms[j]? = some y ∧ goB x y = false
def AllGo (ms : List Int) : Prop := ∀ (a b : Nat) (x y : Int), a < b → ms[a]? = some x → ms[b]? = some y → goB x y = true
def pmFC : List PyData → (PyData → Prop) → Prop := fun ds R => ∃ hs, ds = [tTs hs] ∧ hs.length ≤ 500 ∧ (∀ k ∈ hs, small k) ∧ (∀ i j, FirstX (hs.map bitsOf) i j → R (.tuple [.int (i : Nat), .int (j : Nat)])) ∧ (AllGo (hs.map bitsOf) → R .none)
theorem sc13 : FnScope ["halvings", "many", "place", "other", "halving"] ["halvings"] (defScope (top 13)) := ⟨rfl, rfl, rfl, by decide +kernel, rfl, by decide +kernel, by decide +kernel⟩
theorem ok13 (F : Fun K "first_cross" "first_cross" (top 13) f fd) (bm : Bi mg) (c5 : Cl false P w K mg base 1 "bits_of" (spP pmBits)) (c11 : Cl false P w K mg base 1 "bits_go_together" (spP pmGo)) : FnV false P w K mg base CX0 2 f fd ["halvings"] (spP pmFC) := by
  refine fnG F sc13 (fun ds R ⟨a, e, _⟩ => by rw [e]; rfl) (by decide) fun X H h ds R hX ⟨hs, ed, hz, hsm, hR, hR0⟩ => ?_
  obtain ⟨f, cdv, A, outer, s, H0, E, rfl, hr, gd⟩ := hX
  subst ed
  have hN := sc13.nd
  generalize eM : hs.map bitsOf = M at hR hR0
  have lM : M.length = hs.length := by rw [← eM, List.length_map]
  refine wss_cons (N1 := fun s => s = [.d (tTs hs), .d (lI M), .u, .u, .u]) (ws_lcN (as := hs) (enc := tI) (out := fun k => .int (bitsOf k)) (p := fun _ => true) 1 4 rfl hN (di_tup (de_var 0)) (blkOk_by rfl) (fun a ha D s H C cl fp => rfl)
    (fun a ha _ D s H C cl fp => we_call c5 hr (by decide) rfl (da_cons (de_var 4) wa_nil) fun ds e => ⟨a, e, hsm a ha, rfl⟩) (by omega) ?_) fun s e => ?_
  · have e : hs.filter (fun _ => true) = hs := List.filter_eq_self.mpr fun _ _ => rfl
    rw [e, lI, ← eM, List.map_map]
    rfl
  subst e
  have lz : (M.map PyData.int).length = M.length := List.length_map _
  refine wss_cons (N1 := fun _ => AllGo M) (ws_forRN (mm := M.length) (lo := 0) 2 [3, 2] (fun i s => s = [.d (tTs hs), .d (lI M), .u, .u, .u] ∧ NoneB M i 0) PassesOwn.never rfl (wr1 _ rfl (bm _ (by decide)) (de_len rfl (bm _ (by decide)) isq_l (de_var 1)) (by rw [lz]) (by omega))
    (pg_name hN rfl (Or.inl rfl)) ⟨rfl, fun a b x y z => by omega, fun b x y z1 z2 => by omega⟩ (fun i s hi ⟨e, nb⟩ => ?_) fun s ⟨e, nb⟩ => ?_) fun s ag => ?_
  · subst e
    refine wss_one (ws_forRN (mm := M.length - (i + 1)) (lo := 0 + (i : Nat) + 1) 3 [3] (fun k s => s = [.d (tTs hs), .d (lI M), .d (.int (0 + (i : Nat))), .u, .u] ∧ NoneB M i (i + 1 + k)) PassesOwn.never rfl (wr2 _ rfl (bm _ (by decide)) (de_add (de_var 2) de_int) (de_len rfl (bm _ (by decide)) isq_l (de_var 1)) (by rw [lz]; omega) (by omega) (by omega) (by omega) (by omega))
      (pg_name hN rfl (Or.inl rfl)) ⟨rfl, nb.1, fun b x y z1 z2 => by omega⟩ (fun k s hk ⟨e, nb⟩ => ?_) fun s ⟨e, nb⟩ => ?_)
    · subst e
      obtain ⟨x, hx⟩ : ∃ x, M[i]? = some x := ⟨_, List.getElem?_eq_getElem (by omega)⟩
      obtain ⟨y, hy⟩ : ∃ y, M[i + 1 + k]? = some y := ⟨_, List.getElem?_eq_getElem (by omega)⟩
      refine wss_one (ws_if (dt_not (dt_val (we_call c11 hr (by decide) rfl (da_cons (de_ix (n := i) isq_l (de_var 1) (de_var 2) (by omega) (mget hx)) (da_cons (de_ix (n := i + 1 + k) isq_l (de_var 1) (de_var 3) (by omega) (mget hy)) wa_nil)) fun ds e => ⟨x, y, e, rfl⟩))) (fun e => ?_) fun e => wss_nil ⟨rfl, nb.1, fun b x' y' z1 z2 hx' hy' => ?_⟩)
      · have e0 : goB x y = false := by
          cases q : goB x y with
          | false => rfl
          | true => rw [q] at e; cases e
        refine wss_one (ws_ret (de_tup (da_cons (de_var 2) (da_cons (de_var 3) wa_nil))) fun d e => ?_)
        rw [e]
        have := hR i (i + 1 + k) ⟨nb, by omega, x, y, hx, hy, e0⟩
        rw [show (0 : Int) + (i : Nat) = ((i : Nat) : Int) by omega, show ((i : Nat) : Int) + 1 + (k : Nat) = ((i + 1 + k : Nat) : Int) by omega]
        exact this
      · by_cases hb : b = i + 1 + k
        · subst hb
          rw [hx] at hx'
          rw [hy] at hy'
          cases hx'
          cases hy'
          cases q : goB x y with
          | true => rfl
          | false => rw [q] at e; cases e
        · exact nb.2 b x' y' z1 (by omega) hx' hy'
    · subst e
      refine ⟨rfl, fun a b x y z1 z2 hx hy => ?_, fun b x y z1 z2 => by omega⟩
      by_cases ha : a = i
      · subst ha
        have := (List.getElem?_eq_some_iff.mp hy).1
        exact nb.2 b x y z2 (by omega) hx hy
      · exact nb.1 a b x y (by omega) z2 hx hy
  · exact fun a b x y z hx hy => nb.1 a b x y (List.getElem?_eq_some_iff.mp hx).1 z hx hy
  · exact wss_one (ws_ret de_non fun d e => by rw [e]; exact hR0 ag)
end
end F26

/-! walks: part_without, finer_web, nest_bits, need_one_size, finer_pair, rooted -/
namespace F26
open PySem PySem.Spec L2

def rangeI (n : Nat) : List Int := (List.range n).map Int.ofNat
theorem rangeI_len (n : Nat) : (rangeI n).length = n := by unfold rangeI; rw [List.length_map, List.length_range]
theorem rangeD_I (n : Nat) : rangeD 0 n = (rangeI n).map .int := by
  unfold rangeD rangeI
  rw [List.map_map]
  apply List.map_congr_left
  intro i _
  show PyData.int (0 + (i : Int)) = PyData.int (i : Int)
  rw [Int.zero_add]
theorem mem_rangeI {n : Nat} {x : Int} : x ∈ rangeI n ↔ 0 ≤ x ∧ x < n := by
  unfold rangeI
  constructor
  · intro h
    obtain ⟨i, hi, rfl⟩ := List.mem_map.mp h
    have := List.mem_range.mp hi
    show (0 : Int) ≤ (i : Int) ∧ (i : Int) < n
    omega
  · intro h
    exact List.mem_map.mpr ⟨x.toNat, List.mem_range.mpr (by omega), by show ((x.toNat : Nat) : Int) = x; omega⟩
section
variable {X : Cx} {B : Bs} {h : List Addr} {ss : List Sl} {tg a b : Expr} {p pos : Pos}
theorem di_rng {n : Int} (m : Nat) (hg : Gl X "range") (hm : X.mg "range" = none) (w : DE X B h a ss (.int n)) (e : n = (m : Int)) (hz : m ≤ 100000) (hs : starEach [a] X.env = [(false, eval a X.env)] := by rfl) : DI X B h tg (.Call (.Name "range" p) [a] [] pos) ss ((rangeI m).map .int) := by
  have := di_range1 (tg := tg) (p := p) (pos := pos) hg hm w (by omega) (by omega) hs
  rw [show n.toNat = m by omega, rangeD_I] at this
  exact this
theorem de_allM {α : Type} {as : List α} {q : α → Bool} (hc : X.calm = true) (hg : Gl X "all") (hm : X.mg "all" = none) (w : DE X B h a ss (.list (as.map fun x => .bool (q x)))) (he : starEach (a :: []) X.env = (false, eval a X.env) :: starEach [] X.env := by rfl) (hpl : (backTo pos (starEach [] X.env)).any (·.1) = false := by rfl) :
    DE X B h (.Call (.Name "all" p) [a] [] pos) ss (.bool (as.all q)) := by
  have e1 : (as.map fun x => PyData.bool (q x)) = (as.map q).map .bool := by rw [List.map_map]; rfl
  rw [e1] at w
  have := de_all (p := p) (pos := pos) hc hg hm w he hpl
  rw [List.all_map] at this
  exact this
end
/-- a size and lots -/
def netT (n : Nat) (hs : List (List Int)) : PyData := .tuple [.int (n : Int), tTs hs]
def partWo (n : Nat) (hv : List Int) (leaf : Int) : List Int := if leaf ∈ hv then (rangeI n).filter (fun x => !decide (x ∈ hv)) else hv
def pmWo : List PyData → (PyData → Prop) → Prop := fun ds R => ∃ (n : Nat) (hv : List Int) (leaf : Int), ds = [.int (n : Int), tI hv, .int leaf] ∧ n ≤ 100 ∧ R (tI (partWo n hv leaf))
def pmFW : List PyData → (PyData → Prop) → Prop := fun ds R => ∃ n hs gs, ds = [netT n hs, netT n gs] ∧ gs.length ≤ 500 ∧ R (.bool (gs.all fun k => decide (k ∈ hs)))
def pmNB : List PyData → (PyData → Prop) → Prop := fun ds R => ∃ n hs, ds = [netT n hs] ∧ hs.length ≤ 500 ∧ (∀ k ∈ hs, small k) ∧ R (lI (hs.map bitsOf))
def pmOne : List PyData → (PyData → Prop) → Prop := fun ds R => ∃ n hs gs, ds = [netT n hs, netT n gs] ∧ R .none
def pmFP : List PyData → (PyData → Prop) → Prop := fun ds R => ∃ n hs gs, ds = [netT n hs, netT n gs] ∧ hs.length ≤ 500 ∧ gs.length ≤ 500 ∧ (∀ k ∈ hs, small k) ∧ (∀ k ∈ gs, small k) ∧
  ((∃ a ∈ hs, ∃ b ∈ gs, crossB (bitsOf a) (bitsOf b) = true) → ∀ i j : Int, R (.tuple [.int i, .int j])) ∧ ((∀ a ∈ hs, ∀ b ∈ gs, crossB (bitsOf a) (bitsOf b) = false) → R .none)
def relab (leaf x : Int) : Int := if x < leaf then x else x - 1
def nestsOf (n : Nat) (hs : List (List Int)) (leaf : Int) : List (List Int) := hs.map (fun k => (partWo n k leaf).map (relab leaf)) ++ if 2 < n then [rangeI (n - 1)] else []
def pmRt : List PyData → (PyData → Prop) → Prop := fun ds R => ∃ n hs leaf, ds = [netT n hs, .int leaf] ∧ 1 ≤ n ∧ n ≤ 100 ∧ hs.length ≤ 100 ∧ (∀ k ∈ hs, k.length ≤ 100 ∧ ∀ x ∈ k, 0 ≤ x ∧ x < (n : Int)) ∧ R (netT (n - 1) (inOrd (nestsOf n hs leaf)))
section
variable {P : Program} {w : World} {K : PySem.W.Frag} {mg : Str → Option Value} {base : Heap} {f : Addr} {fd : FuncData}
theorem sc17 : FnScope ["size", "halving", "leaf", "other"] ["size", "halving", "leaf"] (defScope (top 17)) := ⟨rfl, rfl, rfl, by decide +kernel, rfl, by decide +kernel, by decide +kernel⟩
theorem ok17 (F : Fun K "part_without" "part_without" (top 17) f fd) (bm : Bi mg) : FnV false P w K mg base CX0 1 f fd ["size", "halving", "leaf"] (spP pmWo) := by
  refine fnG F sc17 (fun ds R ⟨a, b, c, e, _⟩ => by rw [e]; rfl) (by decide) fun X H h ds R hX ⟨n, hv, leaf, ed, hn, hR⟩ => ?_
  obtain ⟨f, cdv, A, outer, s, H0, E, rfl, hr, gd⟩ := hX
  subst ed
  have hN := sc17.nd
  refine wss_cons (N1 := fun s => s = [.d (.int (n : Int)), .d (tI hv), .d (.int leaf), .u] ∧ leaf ∈ hv) (ws_if (dt_c (dc_ninI hr isq_t (de_var 2) (de_var 1))) (fun e => ?_) fun e => wss_nil ⟨rfl, ?_⟩) fun s ⟨e, hl⟩ => ?_
  · have hl : leaf ∉ hv := fun z => by rw [decide_eq_true z] at e; cases e
    refine wss_one (ws_ret (de_var 1) fun d e => ?_)
    rw [e]
    unfold partWo at hR
    rw [if_neg hl] at hR
    exact hR
  · cases q : decide (leaf ∈ hv) with
    | true => exact of_decide_eq_true q
    | false => rw [q] at e; cases e
  · subst e
    unfold partWo at hR
    rw [if_pos hl] at hR
    exact wss_one (ws_ret (de_tuple rfl (bm _ (by decide)) isq_l (de_lcF (as := rangeI n) (enc := .int) (out := .int) (p := fun x => !decide (x ∈ hv)) 3 rfl hN (di_rng n rfl (bm _ (by decide)) (de_var 0) rfl (by omega)) (blkOk_by rfl) (fun a ha D s H C cl fp => dt_c (dc_ninI hr isq_t (de_var 3) (de_var 1))) (fun a ha _ D s H C cl fp => de_var 3) (by rw [rangeI_len]; omega))) fun d e => by rw [e]; exact hR)
theorem sc15 : FnScope ["web", "other", "halving"] ["web", "other"] (defScope (top 15)) := ⟨rfl, rfl, rfl, by decide +kernel, rfl, by decide +kernel, by decide +kernel⟩
theorem ok15 (F : Fun K "finer_web" "finer_web" (top 15) f fd) (bm : Bi mg) : FnV false P w K mg base CX0 1 f fd ["web", "other"] (spP pmFW) := by
  refine fnG F sc15 (fun ds R ⟨a, b, c, e, _⟩ => by rw [e]; rfl) (by decide) fun X H h ds R hX ⟨n, hs, gs, ed, hz, hR⟩ => ?_
  obtain ⟨f, cdv, A, outer, s, H0, E, rfl, hr, gd⟩ := hX
  subst ed
  have hN := sc15.nd
  refine wss_cons (N1 := fun s => s = [.d (netT n hs), .d (netT n gs), .u]) (ws_if (dt_c (dc_neI (de_ix (n := 0) isq_t (de_var 0) de_int rfl rfl) (de_ix (n := 0) isq_t (de_var 1) de_int rfl rfl))) (fun e => ?_) fun e => wss_nil rfl) fun s e => ?_
  · exfalso
    rw [decide_eq_true rfl] at e
    cases e
  · subst e
    exact wss_one (ws_ret (de_allM (as := gs) (q := fun k => decide (k ∈ hs)) rfl rfl (bm _ (by decide)) (de_lcM (as := gs) (enc := tI) (out := fun k => .bool (decide (k ∈ hs))) 2 rfl hN (di_tup (de_ix (n := 1) isq_t (de_var 1) de_int rfl rfl)) (blkOk_by rfl) (fun a ha D s H C cl fp => de_c (dc_inL hr isq_t (de_var 2) (de_ix (n := 1) isq_t (de_var 0) de_int rfl rfl))) (by omega))) fun d e => by rw [e]; exact hR)
theorem sc28 : FnScope ["tree", "nest"] ["tree"] (defScope (top 28)) := ⟨rfl, rfl, rfl, by decide +kernel, rfl, by decide +kernel, by decide +kernel⟩
theorem ok28 (F : Fun K "nest_bits" "nest_bits" (top 28) f fd) (c5 : Cl false P w K mg base 1 "bits_of" (spP pmBits)) : FnV false P w K mg base CX0 2 f fd ["tree"] (spP pmNB) := by
  refine fnG F sc28 (fun ds R ⟨a, b, e, _⟩ => by rw [e]; rfl) (by decide) fun X H h ds R hX ⟨n, hs, ed, hz, hsm, hR⟩ => ?_
  obtain ⟨f, cdv, A, outer, s, H0, E, rfl, hr, gd⟩ := hX
  subst ed
  have hN := sc28.nd
  refine wss_one (ws_ret (de_lcM (as := hs) (enc := tI) (out := fun k => .int (bitsOf k)) 1 rfl hN (di_tup (de_ix (n := 1) isq_t (de_var 0) de_int rfl rfl)) (blkOk_by rfl) (fun a ha D s H C cl fp => we_call c5 hr (by decide) rfl (da_cons (de_var 1) wa_nil) fun ds e => ⟨a, e, hsm a ha, rfl⟩) (by omega)) fun d e => ?_)
  rw [e]
  unfold lI at hR
  rw [List.map_map] at hR
  exact hR
theorem sc29 : FnScope ["tree", "other"] ["tree", "other"] (defScope (top 29)) := ⟨rfl, rfl, rfl, by decide +kernel, rfl, by decide +kernel, by decide +kernel⟩
theorem ok29 (F : Fun K "need_one_size" "need_one_size" (top 29) f fd) : FnV false P w K mg base CX0 1 f fd ["tree", "other"] (spP pmOne) := by
  refine fnG F sc29 (fun ds R ⟨a, b, c, e, _⟩ => by rw [e]; rfl) (by decide) fun X H h ds R hX ⟨n, hs, gs, ed, hR⟩ => ?_
  obtain ⟨f, cdv, A, outer, s, H0, E, rfl, hr, gd⟩ := hX
  subst ed
  refine wss_one (ws_if (dt_c (dc_neI (de_ix (n := 0) isq_t (de_var 0) de_int rfl rfl) (de_ix (n := 0) isq_t (de_var 1) de_int rfl rfl))) (fun e => ?_) fun e => wss_nil hR)
  exfalso
  rw [decide_eq_true rfl] at e
  cases e
theorem sc30 : FnScope ["tree", "other", "others", "place", "bits", "further", "own"] ["tree", "other"] (defScope (top 30)) := ⟨rfl, rfl, rfl, by decide +kernel, rfl, by decide +kernel, by decide +kernel⟩
theorem ok30 (F : Fun K "finer_pair" "finer_pair" (top 30) f fd) (bm : Bi mg) (c7 : Cl false P w K mg base 1 "bits_cross" (spP pmCross)) (c28 : Cl false P w K mg base 2 "nest_bits" (spP pmNB)) (c29 : Cl false P w K mg base 1 "need_one_size" (spP pmOne)) : FnV false P w K mg base CX0 3 f fd ["tree", "other"] (spP pmFP) := by
  refine fnG F sc30 (fun ds R ⟨a, b, c, e, _⟩ => by rw [e]; rfl) (by decide) fun X H h ds R hX ⟨n, hs, gs, ed, hz, gz, hsm, gsm, hR, hR0⟩ => ?_
  obtain ⟨f, cdv, A, outer, s, H0, E, rfl, hr, gd⟩ := hX
  subst ed
  have hN := sc30.nd
  refine wss_cons (N1 := fun s => s = [.d (netT n hs), .d (netT n gs), .u, .u, .u, .u, .u]) (ws_expr (we_call (R := fun _ => True) c29 hr (by decide) rfl (da_cons (de_var 0) (da_cons (de_var 1) wa_nil)) fun ds e => ⟨n, hs, gs, e, trivial⟩) fun d _ => rfl) fun s e => ?_
  subst e
  refine wss_cons (N1 := fun s => s = [.d (netT n hs), .d (netT n gs), .d (lI (gs.map bitsOf)), .u, .u, .u, .u]) (ws_set 2 (we_call (R := fun x => x = lI (gs.map bitsOf)) c28 hr (by decide) rfl (da_cons (de_var 1) wa_nil) fun ds e => ⟨n, gs, e, gz, gsm, rfl⟩) (fun d e => by rw [e]; rfl) hN) fun s e => ?_
  subst e
  refine wss_cons (N1 := fun _ => ∀ a ∈ hs, ∀ b ∈ gs, crossB (bitsOf a) (bitsOf b) = false) (ws_forP (as := hs.map bitsOf) (enc := .int) 3 4 [5, 6, 3, 4] (fun i s => s = [.d (netT n hs), .d (netT n gs), .d (lI (gs.map bitsOf)), .u, .u, .u, .u] ∧ ∀ (a : Nat) (x : Int), a < i → (hs.map bitsOf)[a]? = some x → ∀ b ∈ gs, crossB x (bitsOf b) = false) (by decide) PassesOwn.never rfl
    (di_enum rfl (bm _ (by decide)) (we_call c28 hr (by decide) rfl (da_cons (de_var 0) wa_nil) fun ds e => ⟨n, hs, e, hz, hsm, rfl⟩)) (pg_tup rfl (pgs_cons (pg_name hN rfl (Or.inl rfl)) (pgs_cons (pg_name hN rfl (Or.inl rfl)) pgs_nil)))
    (fun i s e => by rw [e.1]; exact no_cons nofun (no_cons nofun (no_cons nofun (no_cons nofun (no_cons nofun (no_cons nofun (no_cons nofun no_nil))))))) ⟨rfl, fun a x z => by omega⟩ (fun i x s hx ⟨e, nb⟩ => ?_) fun s ⟨e, nb⟩ a ha b hb => ?_) fun s nb => ?_
  · subst e
    refine wss_one (ws_forP (as := gs.map bitsOf) (enc := .int) 5 6 [5, 6] (fun k s => s = [.d (netT n hs), .d (netT n gs), .d (lI (gs.map bitsOf)), .d (.int (i : Nat)), .d (.int x), .u, .u] ∧ ∀ (b : Nat) (y : Int), b < k → (gs.map bitsOf)[b]? = some y → crossB x y = false) (by decide) PassesOwn.never rfl
      (di_enum rfl (bm _ (by decide)) (de_var 2)) (pg_tup rfl (pgs_cons (pg_name hN rfl (Or.inl rfl)) (pgs_cons (pg_name hN rfl (Or.inl rfl)) pgs_nil)))
      (fun i s e => by rw [e.1]; exact no_cons nofun (no_cons nofun (no_cons nofun (no_cons nofun (no_cons nofun (no_cons nofun (no_cons nofun no_nil))))))) ⟨rfl, fun a x z => by omega⟩ (fun k y s hy ⟨e, nb2⟩ => ?_) fun s ⟨e, nb2⟩ => ?_)
    · subst e
      refine wss_one (ws_if (dt_val (we_call c7 hr (by decide) rfl (da_cons (de_var 4) (da_cons (de_var 6) wa_nil)) fun ds e => ⟨x, y, e, rfl⟩)) (fun e => wss_one (ws_ret (de_tup (da_cons (de_var 3) (da_cons (de_var 5) wa_nil))) fun d ed => ?_)) fun e => wss_nil ⟨rfl, fun b y' hb hy' => ?_⟩)
      · rw [ed]
        obtain ⟨a, ha, ea⟩ := List.mem_map.mp (List.mem_of_getElem? hx)
        obtain ⟨b, hb, eb⟩ := List.mem_map.mp (List.mem_of_getElem? hy)
        exact hR ⟨a, ha, b, hb, by rw [ea, eb]; exact e.symm⟩ _ _
      · by_cases hbk : b = k
        · subst hbk
          rw [hy] at hy'
          cases hy'
          exact e.symm
        · exact nb2 b y' (by omega) hy'
    · subst e
      refine ⟨rfl, fun a x' ha hx' b hb => ?_⟩
      by_cases hai : a = i
      · subst hai
        rw [hx] at hx'
        cases hx'
        obtain ⟨k, hk, e⟩ := List.getElem_of_mem hb
        exact nb2 k _ (by rw [List.length_map]; exact hk) (mget (by rw [List.getElem?_eq_getElem hk, e]))
      · exact nb a x' (by omega) hx' b hb
  · obtain ⟨k, hk, e⟩ := List.getElem_of_mem ha
    exact nb k _ (by rw [List.length_map]; exact hk) (mget (by rw [List.getElem?_eq_getElem hk, e])) b hb
  · exact wss_one (ws_ret de_non fun d e => by rw [e]; exact hR0 nb)
end
end F26

/-! walks: rooted, four_lots, word_for, four_at, four_words -/
namespace F26
open PySem PySem.Spec L2

theorem filt_true {α : Type} {l : List α} : l.filter (fun _ => true) = l := List.filter_eq_self.mpr fun _ _ => rfl
/-! data slots without lists -/
theorem nls_of {ss : List Sl} {i : Nat} (h : ∀ x ∈ ss, ∀ d, x = .d d → nl d = true) : nlS ss i := fun j x hj _ => h _ (List.mem_of_getElem? hj) x rfl
theorem nlAll_map {α : Type} {g : α → PyData} (hg : ∀ a, nl (g a) = true) : ∀ l : List α, nlAll (l.map g) = true
  | [] => rfl
  | a :: l => by
    show (nl (g a) && nlAll (l.map g)) = true
    rw [hg, nlAll_map hg l]
    rfl
theorem nl_tI (k : List Int) : nl (tI k) = true := by
  unfold tI
  simp only [nl]
  exact nlAll_map (fun _ => rfl) k
theorem nl_tTs (ks : List (List Int)) : nl (tTs ks) = true := by
  unfold tTs
  simp only [nl]
  exact nlAll_map nl_tI ks
theorem nl_netT (n : Nat) (ks : List (List Int)) : nl (netT n ks) = true := by
  unfold netT
  simp only [nl, nlAll, nl_tTs, Bool.and_true]
theorem valV_get {g : Int → Int} : ∀ {l : List Int} {i : Int}, i ∈ l → valV ((l.map fun o => (o, g o)).map fun p => (Sum.inl p.1, V.int p.2) : List (Key × V)) (Sum.inl i) = some (.int (g i))
  | x :: l, i, h => by
    unfold valV
    rw [List.map_cons, List.map_cons, List.find?_cons]
    by_cases hx : x = i
    · subst hx
      simp
    · have h1 : ¬ ((Sum.inl x : Key) = Sum.inl i) := fun z => hx (Sum.inl.inj z)
      simp only [h1, decide_false]
      have := valV_get (g := g) ((List.mem_cons.mp h).resolve_left fun z => hx z.symm)
      unfold valV at this
      exact this
section
variable {P : Program} {w : World} {K : PySem.W.Frag} {mg : Str → Option Value} {base : Heap} {f : Addr} {fd : FuncData}
theorem partWo_in {n : Nat} {hv : List Int} {leaf : Int} (h : ∀ x ∈ hv, 0 ≤ x ∧ x < (n : Int)) : ∀ x ∈ partWo n hv leaf, 0 ≤ x ∧ x < (n : Int) := fun x hx => by
  unfold partWo at hx
  split at hx
  · exact mem_rangeI.mp (List.mem_filter.mp hx).1
  · exact h x hx
theorem partWo_len {n : Nat} {hv : List Int} {leaf : Int} (h : hv.length ≤ 100) (hn : n ≤ 100) : (partWo n hv leaf).length ≤ 100 := by
  unfold partWo
  split
  · exact Nat.le_trans (List.length_filter_le _ _) (by rw [rangeI_len]; exact hn)
  · exact h
theorem sc18 : FnScope ["web", "leaf", "size", "places", "nests", "own", "halving", "nest"] ["web", "leaf"] (defScope (top 18)) := ⟨rfl, rfl, rfl, by decide +kernel, rfl, by decide +kernel, by decide +kernel⟩
theorem ok18 (F : Fun K "rooted" "rooted" (top 18) f fd) (bm : Bi mg) (c17 : Cl false P w K mg base 1 "part_without" (spP pmWo)) (c8 : Cl false P w K mg base 4 "in_order" (spP pmOrd)) : FnV false P w K mg base CX0 5 f fd ["web", "leaf"] (spP pmRt) := by
  refine fnG F sc18 (fun ds R ⟨a, b, c, e, _⟩ => by rw [e]; rfl) (by decide) fun X H h ds R hX ⟨n, hs, leaf, ed, n1, hn, hz, hin, hR⟩ => ?_
  obtain ⟨f, cdv, A, outer, s, H0, E, rfl, hr, gd⟩ := hX
  subst ed
  have hN := sc18.nd
  have hu : _ + 1 < cLine := Nat.lt_of_le_of_lt (Nat.add_le_add_left (by decide : 1 ≤ 64) _) hr.units
  refine wss_cons (N1 := fun s => s = [.d (netT n hs), .d (.int leaf), .d (.int (n : Int)), .u, .u, .u, .u, .u]) (ws_set 2 (de_ix (n := 0) isq_t (de_var 0) de_int rfl rfl) (fun d e => by rw [e]; rfl) hN) fun s e => ?_
  subst e
  refine wss_cons (N1 := fun s => s = [.d (netT n hs), .d (.int leaf), .d (.int (n : Int)), .d (dKd ((rangeI n).map fun o => (o, relab leaf o))), .u, .u, .u, .u]) (ws_set 3 (de_dictK (kvs := (rangeI n).map fun o => (o, relab leaf o)) rfl rfl (bm _ (by decide)) ?_
    (WE.eq (de_lcM (as := rangeI n) (enc := .int) (out := fun o => pKD (o, relab leaf o)) 5 rfl hN (di_rng n rfl (bm _ (by decide)) (de_var 2) rfl (by omega)) (blkOk_by rfl) (fun a ha D s H C cl fp => ?_) (by rw [rangeI_len]; omega)) ?_)) (fun d e => by rw [e]; rfl) hN) fun s e => ?_
  · rw [List.map_map]
    have : (rangeI n).map ((fun x : Int × Int => x.1) ∘ fun o => (o, relab leaf o)) = rangeI n := List.map_id' _
    rw [this]
    unfold rangeI
    exact List.Pairwise.map Int.ofNat (fun a b ne e => ne (Int.ofNat.inj e)) (List.nodup_range (n := n))
  · refine WE.eq (de_tup (da_cons (de_var 5) (da_cons (de_if (dt_c (dc_lt (de_var 5) (de_var 1))) (fun _ => de_var 5) (fun _ => de_sub (de_var 5) de_int)) wa_nil))) ?_
    unfold pKD relab
    by_cases q : a < leaf <;> simp [q]
  · rw [List.map_map]
    rfl
  subst e
  refine wss_cons (N1 := fun s => s = [.d (netT n hs), .d (.int leaf), .d (.int (n : Int)), .d (dKd ((rangeI n).map fun o => (o, relab leaf o))), .d (lTs (hs.map fun k => partWo n k leaf)), .u, .u, .u]) (ws_lcN (as := hs) (enc := tI) (out := fun k => tI (partWo n k leaf)) (p := fun _ => true) 4 6 rfl hN (di_tup (de_ix (n := 1) isq_t (de_var 0) de_int rfl rfl)) (blkOk_by rfl) (fun a ha D s H C cl fp => rfl)
    (fun a ha _ D s H C cl fp => we_call c17 hr (by decide) rfl (da_cons (de_var 2) (da_cons (de_var 6) (da_cons (de_var 1) wa_nil))) fun ds e => ⟨n, a, leaf, e, hn, rfl⟩) (by omega) ?_) fun s e => ?_
  · rw [filt_true, lTs, List.map_map]
    rfl
  subst e
  refine wss_cons (N1 := fun s => ∃ L, s = [.d (netT n hs), .d (.int leaf), .d (.int (n : Int)), .d (dKd ((rangeI n).map fun o => (o, relab leaf o))), .l L ((hs.map fun k => (partWo n k leaf).map (relab leaf)).map tI), .u, .u, .u]) (ws_lcO (as := hs.map fun k => partWo n k leaf) (enc := tI) (out := fun k => tI (k.map (relab leaf))) (p := fun _ => true) 4 7 rfl hN (di_list (de_var 4)) (blkOk_by rfl) (fun a ha D s H C cl fp => rfl)
    (fun a ha _ D s H C cl fp => de_tuple rfl (bm _ (by decide)) isq_l (WE.eq (de_lcM (as := a) (enc := .int) (out := fun x => .int (relab leaf x)) 5 rfl hN (di_tup (de_var 7)) (blkOk_by rfl) (fun x hx D s H C cl fp => de_dget (kvs := (rangeI n).map fun o => (o, relab leaf o)) hu (de_var 3) (de_var 5) (valV_get ?_)) ?_) ?_)) (by rw [List.length_map]; omega) (fun a => nl_tI _) fun L => ⟨L, ?_⟩) fun s e => ?_
  · obtain ⟨k, hk, rfl⟩ := List.mem_map.mp ha
    exact mem_rangeI.mpr (partWo_in (hin k hk).2 x hx)
  · obtain ⟨k, hk, rfl⟩ := List.mem_map.mp ha
    have := partWo_len (n := n) (leaf := leaf) (hin k hk).1 hn
    omega
  · rw [List.map_map]
    rfl
  · rw [filt_true, List.map_map, List.map_map]
    rfl
  obtain ⟨L, e⟩ := e
  subst e
  refine wss_cons (N1 := fun s => s = [.d (netT n hs), .d (.int leaf), .d (.int (n : Int)), .d (dKd ((rangeI n).map fun o => (o, relab leaf o))), .l L ((nestsOf n hs leaf).map tI), .u, .u, .u]) (ws_if (dt_c (dc_gt (de_var 2) de_int)) (fun e => ?_) fun e => wss_nil ?_) fun s e => ?_
  · have h2 : 2 < n := by
      have := of_decide_eq_true e.symm
      omega
    refine wss_one (ws_append 4 rfl (nls_of fun x hx d ed => ?_) (de_tupRange rfl rfl (bm _ (by decide)) rfl (bm _ (by decide)) (de_sub (de_var 2) de_int) (by omega) (by omega)) (fun d ed => ?_) (by rw [List.length_map, List.length_map]; omega) fun d ed => ?_)
    · subst ed
      simp only [List.mem_cons, Sl.d.injEq, List.not_mem_nil, or_false, reduceCtorEq, false_or] at hx
      rcases hx with z | z | z | z
      · rw [z]; exact nl_netT _ _
      · rw [z]; rfl
      · rw [z]; rfl
      · rw [z]; rfl
    · rw [ed, rangeD_I]
      exact nl_tI _
    · rw [ed, rangeD_I, show ((n : Int) - 1).toNat = n - 1 by omega]
      unfold nestsOf
      rw [if_pos h2, List.map_append]
      rfl
  · have h2 : ¬ 2 < n := by
      have := of_decide_eq_false e.symm
      omega
    unfold nestsOf
    rw [if_neg h2, List.append_nil]
  subst e
  have lz : (nestsOf n hs leaf).length ≤ 101 := by
    unfold nestsOf
    rw [List.length_append, List.length_map]
    split <;> simp <;> omega
  have lk : ∀ k ∈ nestsOf n hs leaf, k.length ≤ 100 := fun k hk => by
    unfold nestsOf at hk
    rcases List.mem_append.mp hk with z | z
    · obtain ⟨y, hy, rfl⟩ := List.mem_map.mp z
      rw [List.length_map]
      exact partWo_len (hin y hy).1 hn
    · split at z
      · rw [List.mem_singleton.mp z, rangeI_len]
        omega
      · cases z
  refine wss_one (ws_ret (de_tup (da_cons (de_sub (de_var 2) de_int) (da_cons (we_call (R := fun x => x = tTs (inOrd (nestsOf n hs leaf))) c8 hr (by decide) rfl (da_cons (de_varL 4) wa_nil) fun ds e => ⟨_, e, ⟨by omega, fun k hk => by have := lk k hk; omega⟩, rfl⟩) wa_nil))) fun d e => ?_)
  rw [e]
  unfold netT at hR
  rw [show ((n - 1 : Nat) : Int) = (n : Int) - 1 by omega] at hR
  exact hR
end
end F26

/-! walks: four_lots, word_for, four_at, four_words -/
namespace F26
open PySem PySem.Spec L2

section
variable {X : Cx} {B : Bs} {h : List Addr} {ss : List Sl} {tg a b : Expr} {p pos : Pos}
theorem di_rng2 {lo n : Int} (m : Nat) (hg : Gl X "range") (hm : X.mg "range" = none) (w : DE X B h a ss (.int lo)) (w2 : DE X B h b ss (.int n)) (e : (n - lo).toNat = m) (h1 : -100000 ≤ lo) (h2 : lo ≤ 100000) (h3 : -100000 ≤ n) (h4 : n ≤ 100000)
    (hs : starEach [a, b] X.env = [(false, eval a X.env), (false, eval b X.env)] := by rfl) (hs2 : starEach [b] X.env = [(false, eval b X.env)] := by rfl) (hs3 : starEach (a :: [b]) X.env = (false, eval a X.env) :: starEach [b] X.env := by rfl) (hs4 : starEach (b :: []) X.env = (false, eval b X.env) :: starEach [] X.env := by rfl) :
    DI X B h tg (.Call (.Name "range" p) [a, b] [] pos) ss ((List.range m).map fun l => .int (lo + (l : Nat))) := by
  have := di_range2 (tg := tg) (p := p) (pos := pos) hg hm w w2 ⟨by omega, by omega, by omega, by omega⟩ hs hs2 hs3 hs4
  rw [e] at this
  exact this
end
def lot4 (a b c d : Nat) : List Int := [(a : Int), (b : Int), (c : Int), (d : Int)]
def lots4 (n a b c : Nat) (m : Nat) : List (List Int) := (List.range m).map fun k => lot4 a b c (c + 1 + k)
def lots3 (n a b : Nat) (m : Nat) : List (List Int) := (List.range m).flatMap fun k => lots4 n a b (b + 1 + k) (n - (b + 1 + k + 1))
def lots2 (n a : Nat) (m : Nat) : List (List Int) := (List.range m).flatMap fun k => lots3 n a (a + 1 + k) (n - (a + 1 + k + 1))
def lots1 (n : Nat) (m : Nat) : List (List Int) := (List.range m).flatMap fun k => lots2 n k (n - (k + 1))
def fourLots (n : Nat) : List (List Int) := lots1 n n
theorem lots3_succ {n a b m : Nat} : lots3 n a b (m + 1) = lots3 n a b m ++ lots4 n a b (b + 1 + m) (n - (b + 1 + m + 1)) := by
  unfold lots3
  rw [List.range_succ, List.flatMap_append, List.flatMap_singleton]
theorem lots2_succ {n a m : Nat} : lots2 n a (m + 1) = lots2 n a m ++ lots3 n a (a + 1 + m) (n - (a + 1 + m + 1)) := by
  unfold lots2
  rw [List.range_succ, List.flatMap_append, List.flatMap_singleton]
theorem lots1_succ {n m : Nat} : lots1 n (m + 1) = lots1 n m ++ lots2 n m (n - (m + 1)) := by
  unfold lots1
  rw [List.range_succ, List.flatMap_append, List.flatMap_singleton]
theorem lots_len {α : Type} {g : Nat → List α} {c : Nat} (h : ∀ k, (g k).length ≤ c) : ∀ m, ((List.range m).flatMap g).length ≤ m * c
  | 0 => by simp
  | m + 1 => by
    rw [List.range_succ, List.flatMap_append, List.flatMap_singleton, List.length_append, Nat.succ_mul]
    have := lots_len h m
    have := h m
    omega
def pmFL : List PyData → (PyData → Prop) → Prop := fun ds R => ∃ n : Nat, ds = [.int (n : Int)] ∧ n ≤ 6 ∧ R (lTs (fourLots n))
def wordFor (xs ys : List Int) : List Int := if (xs.mergeSort leI).headD 0 < (ys.mergeSort leI).headD 0 then xs.mergeSort leI ++ ys.mergeSort leI else ys.mergeSort leI ++ xs.mergeSort leI
def pmWF : List PyData → (PyData → Prop) → Prop := fun ds R => ∃ x y xs ys, ds = [x, y] ∧ isSq (xs.map .int) x ∧ isSq (ys.map .int) y ∧ xs ≠ [] ∧ ys ≠ [] ∧ xs.length ≤ 100 ∧ ys.length ≤ 100 ∧ R (tI (wordFor xs ys))
/-- the leaves of q in k; the word that k tells of q -/
def ins (k q : List Int) : List Int := q.filter fun x => decide (x ∈ k)
def wdH (k q : List Int) : List Int := wordFor (ins k q) (q.filter fun x => !decide (x ∈ ins k q))
def fourAt (hs : List (List Int)) (q : List Int) : Option (List Int) := (hs.find? fun k => decide ((ins k q).length = 2)).map fun k => wdH k q
def optT : Option (List Int) → PyData
  | none => .none
  | some k => tI k
def pmFA : List PyData → (PyData → Prop) → Prop := fun ds R => ∃ n hs q, ds = [netT n hs, tI q] ∧ q.length = 4 ∧ hs.length ≤ 500 ∧ (∀ k ∈ hs, (ins k q).length = 2 → (q.filter fun x => !decide (x ∈ ins k q)) ≠ []) ∧ R (optT (fourAt hs q))
theorem b1 : ∀ n < 7, ∀ m < 7, (lots1 n m).length ≤ 100 := by decide +kernel
theorem b2 : ∀ n < 7, ∀ a < 7, ∀ m < 7, (lots2 n a m).length ≤ 100 := by decide +kernel
theorem b3 : ∀ n < 7, ∀ b < 7, ∀ m < 7, (lots3 n 0 b m).length ≤ 100 := by decide +kernel
theorem b3' {n a b m : Nat} (h1 : n < 7) (h2 : b < 7) (h3 : m < 7) : (lots3 n a b m).length ≤ 100 := by
  have e : (lots3 n a b m).length = (lots3 n 0 b m).length := by
    unfold lots3
    rw [List.length_flatMap, List.length_flatMap]
    congr 1
    apply List.map_congr_left
    intro k _
    show (lots4 n a b (b + 1 + k) (n - (b + 1 + k + 1))).length = (lots4 n 0 b (b + 1 + k) (n - (b + 1 + k + 1))).length
    unfold lots4
    rw [List.length_map, List.length_map]
  rw [e]
  exact b3 n h1 b h2 m h3
section
variable {P : Program} {w : World} {K : PySem.W.Frag} {mg : Str → Option Value} {base : Heap} {f : Addr} {fd : FuncData}
theorem sc20 : FnScope ["size", "found", "one", "two", "three", "four"] ["size"] (defScope (top 20)) := ⟨rfl, rfl, rfl, by decide +kernel, rfl, by decide +kernel, by decide +kernel⟩
theorem nls_ints {ss : List Sl} {i : Nat} {q : Addr} {ds : List PyData} (h : ∀ x ∈ ss, x = .u ∨ (∃ i : Int, x = .d (.int i)) ∨ x = .l q ds) : nlS ss i := nls_of fun x hx d e => by
  rcases h x hx with z | ⟨i, z⟩ | z
  · rw [z] at e; cases e
  · rw [z] at e; cases e; rfl
  · rw [z] at e; cases e
theorem ok20 (F : Fun K "four_lots" "four_lots" (top 20) f fd) (bm : Bi mg) : FnV false P w K mg base CX0 1 f fd ["size"] (spP pmFL) := by
  refine fnG F sc20 (fun ds R ⟨a, e, _⟩ => by rw [e]; rfl) (by decide) fun X H h ds R hX ⟨n, ed, hn, hR⟩ => ?_
  obtain ⟨f, cdv, A, outer, s, H0, E, rfl, hr, gd⟩ := hX
  subst ed
  have hN := sc20.nd
  refine wss_cons (N1 := fun s => ∃ L, s = [.d (.int (n : Int)), .l L [], .u, .u, .u, .u]) (ws_setF 1 wf_nil (fun ds e => by rw [e]; rfl) (fun p ds e => ⟨p, by rw [e]; rfl⟩) hN) fun s e => ?_
  obtain ⟨L, e⟩ := e
  subst e
  refine wss_cons (N1 := fun s => s = [.d (.int (n : Int)), .l L ((lots1 n n).map tI), .u, .u, .u, .u]) (ws_forRN (mm := n) (lo := 0) 2 [2, 3, 4] (fun i s => s = [.d (.int (n : Int)), .l L ((lots1 n i).map tI), .u, .u, .u, .u]) PassesOwn.never rfl (wr1 _ rfl (bm _ (by decide)) (de_var 0) rfl (by omega)) (pg_name hN rfl (Or.inr rfl)) rfl (fun i s hi e => ?_) fun s e => e) fun s e => ?_
  · subst e
    rw [Int.zero_add]
    refine wss_one (ws_forRN (mm := n - (i + 1)) (lo := (i : Nat) + 1) 3 [3, 4] (fun j s => s = [.d (.int (n : Int)), .l L ((lots1 n i ++ lots2 n i j).map tI), .d (.int (i : Nat)), .u, .u, .u]) PassesOwn.never rfl (wr2 _ rfl (bm _ (by decide)) (de_add (de_var 2) de_int) (de_var 0) (by omega) (by omega) (by omega) (by omega) (by omega)) (pg_name hN rfl (Or.inr rfl)) (by
      have : lots2 n i 0 = [] := rfl
      rw [this, List.append_nil]
      rfl) (fun j s hj e => ?_) fun s e => ?_)
    · subst e
      have nj : ((i : Nat) : Int) + 1 + (j : Nat) = ((i + 1 + j : Nat) : Int) := by omega
      rw [nj]
      refine wss_one (ws_forRN (mm := n - (i + 1 + j + 1)) (lo := ((i + 1 + j : Nat) : Int) + 1) 4 [4] (fun k s => s = [.d (.int (n : Int)), .l L ((lots1 n i ++ lots2 n i j ++ lots3 n i (i + 1 + j) k).map tI), .d (.int (i : Nat)), .d (.int ((i + 1 + j : Nat) : Int)), .u, .u]) PassesOwn.never rfl (wr2 _ rfl (bm _ (by decide)) (de_add (de_var 3) de_int) (de_var 0) (by omega) (by omega) (by omega) (by omega) (by omega)) (pg_name hN rfl (Or.inr rfl)) (by
        have : lots3 n i (i + 1 + j) 0 = [] := rfl
        rw [this, List.append_nil]
        rfl) (fun k s hk e => ?_) fun s e => ?_)
      · subst e
        have nk : ((i + 1 + j : Nat) : Int) + 1 + (k : Nat) = ((i + 1 + j + 1 + k : Nat) : Int) := by omega
        rw [nk]
        have q1 := b1 n (by omega) i (by omega)
        have q2 := b2 n (by omega) i (by omega) j (by omega)
        have q3 := b3' (n := n) (a := i) (b := i + 1 + j) (m := k) (by omega) (by omega) (by omega)
        refine wss_one (ws_extend 1 (ds := (lots1 n i ++ lots2 n i j ++ lots3 n i (i + 1 + j) k).map tI) (q := L) rfl (nls_ints (q := L) (ds := (lots1 n i ++ lots2 n i j ++ lots3 n i (i + 1 + j) k).map tI) fun x hx => ?_) (WE.of (WE.eq (de_lcM (as := (List.range (n - (i + 1 + j + 1 + k + 1)))) (enc := fun l => .int (((i + 1 + j + 1 + k : Nat) : Int) + 1 + (l : Nat))) (out := fun l => tI (lot4 i (i + 1 + j) (i + 1 + j + 1 + k) (i + 1 + j + 1 + k + 1 + l))) 5 rfl hN ?_ (blkOk_by rfl) (fun a ha D s H C cl fp => ?_) (by rw [List.length_range]; omega)) rfl) ?_))
        · rcases List.mem_cons.mp hx with z | hx
          · exact .inr (.inl ⟨_, z⟩)
          rcases List.mem_cons.mp hx with z | hx
          · exact .inr (.inr z)
          rcases List.mem_cons.mp hx with z | hx
          · exact .inr (.inl ⟨_, z⟩)
          rcases List.mem_cons.mp hx with z | hx
          · exact .inr (.inl ⟨_, z⟩)
          rcases List.mem_cons.mp hx with z | hx
          · exact .inr (.inl ⟨_, z⟩)
          rcases List.mem_cons.mp hx with z | hx
          · exact .inl z
          cases hx
        · exact di_rng2 _ rfl (bm _ (by decide)) (de_add (de_var 4) de_int) (de_var 0) (by omega) (by omega) (by omega) (by omega) (by omega)
        · refine WE.eq (de_tup (da_cons (de_var 2) (da_cons (de_var 3) (da_cons (de_var 4) (da_cons (de_var 5) wa_nil))))) ?_
          have : ((i + 1 + j + 1 + k : Nat) : Int) + 1 + (a : Nat) = ((i + 1 + j + 1 + k + 1 + a : Nat) : Int) := by omega
          rw [this]
          rfl
        · refine ⟨_, rfl, nlAll_map (fun _ => nl_tI _) _, by rw [List.length_map, List.length_append, List.length_append, List.length_map, List.length_range]; omega, ?_⟩
          have key : (lots1 n i ++ lots2 n i j ++ lots3 n i (i + 1 + j) (k + 1)).map tI = (lots1 n i ++ lots2 n i j ++ lots3 n i (i + 1 + j) k).map tI ++ (List.range (n - (i + 1 + j + 1 + k + 1))).map fun l => tI (lot4 i (i + 1 + j) (i + 1 + j + 1 + k) (i + 1 + j + 1 + k + 1 + l)) := by
            rw [lots3_succ, ← List.append_assoc, List.map_append]
            congr 1
            unfold lots4
            rw [List.map_map]
            rfl
          rw [key]
          rfl
      · subst e
        rw [lots2_succ, List.append_assoc]
        rfl
    · subst e
      rw [lots1_succ]
      rfl
  · subst e
    exact wss_one (ws_ret (de_varL 1) fun d e => by rw [e]; exact hR)
end
end F26

/-! walks: word_for, four_at, four_words, first_two -/
namespace F26
open PySem PySem.Spec L2

theorem ms_ne {xs : List Int} (h : xs ≠ []) : ∃ x r, xs.mergeSort leI = x :: r := by
  cases e : xs.mergeSort leI with
  | nil =>
    have := List.length_mergeSort (le := leI) xs
    rw [e] at this
    exact absurd (List.length_eq_zero_iff.mp this.symm) h
  | cons x r => exact ⟨x, r, rfl⟩
def wordsOf (n : Nat) (hs : List (List Int)) : List (List Int) := (fourLots n).filterMap (fourAt hs)
def pmFWs : List PyData → (PyData → Prop) → Prop := fun ds R => ∃ n hs, ds = [netT n hs] ∧ n ≤ 6 ∧ hs.length ≤ 500 ∧ (∀ q ∈ fourLots n, ∀ k ∈ hs, (ins k q).length = 2 → (q.filter fun x => !decide (x ∈ ins k q)) ≠ []) ∧ R (tTs ((wordsOf n hs).mergeSort leT))
def srtI (k : List Int) : List Int := k.mergeSort leI
def firstTwo : List (List Int) → Option (List Int × List Int)
  | [] => none
  | w :: r => match r.find? (fun o => decide (srtI o = srtI w)) with
    | some o => some (w, o)
    | none => firstTwo r
theorem firstTwo_cons (w : List Int) (r : List (List Int)) : firstTwo (w :: r) = match r.find? (fun o => decide (srtI o = srtI w)) with
    | some o => some (w, o)
    | none => firstTwo r := rfl
def optTT : Option (List Int × List Int) → PyData
  | none => .none
  | some p => .tuple [tI p.1, tI p.2]
def pmF2 : List PyData → (PyData → Prop) → Prop := fun ds R => ∃ ws, ds = [lTs ws] ∧ ws.length ≤ 500 ∧ (∀ k ∈ ws, k.length ≤ 100) ∧ R (optTT (firstTwo ws))
section
variable {P : Program} {w : World} {K : PySem.W.Frag} {mg : Str → Option Value} {base : Heap} {f : Addr} {fd : FuncData}
theorem sc21 : FnScope ["one", "other"] ["one", "other"] (defScope (top 21)) := ⟨rfl, rfl, rfl, by decide +kernel, rfl, by decide +kernel, by decide +kernel⟩
theorem ok21 (F : Fun K "word_for" "word_for" (top 21) f fd) (bm : Bi mg) : FnV false P w K mg base CX0 1 f fd ["one", "other"] (spP pmWF) := by
  refine fnG F sc21 (fun ds R ⟨_, _, _, _, e, _⟩ => by rw [e]; rfl) (by decide) fun X H h ds R hX ⟨x, y, xs, ys, ed, sx, sy, nx, ny, hx, hy, hR⟩ => ?_
  obtain ⟨f, cdv, A, outer, s, H0, E, rfl, hr, gd⟩ := hX
  subst ed
  have hN := sc21.nd
  have l1 := List.length_mergeSort (le := leI) xs
  have l2 := List.length_mergeSort (le := leI) ys
  obtain ⟨a, r, ea⟩ := ms_ne nx
  obtain ⟨b, t, eb⟩ := ms_ne ny
  unfold wordFor at hR
  rw [ea, eb] at hR
  rw [ea] at l1
  rw [eb] at l2
  refine wss_cons (N1 := fun s => s = [.d (tI (a :: r)), .d (tI (b :: t))]) (ws_par 0 1 (Rs := fun z => z = [tI (a :: r), tI (b :: t)]) rfl hN (da_cons (de_tuple rfl (bm _ (by decide)) isq_l (by rw [← ea]; exact de_sortI hr rfl rfl (bm _ (by decide)) (by omega) sx (de_var 0))) (da_cons (de_tuple rfl (bm _ (by decide)) isq_l (by rw [← eb]; exact de_sortI hr rfl rfl (bm _ (by decide)) (by omega) sy (de_var 1))) wa_nil)) fun ds e => ⟨_, _, e, rfl⟩) fun s e => ?_
  subst e
  refine wss_one (ws_ret (de_if (dt_c (dc_lt (de_ix (n := 0) isq_t (de_var 0) de_int rfl rfl) (de_ix (n := 0) isq_t (de_var 1) de_int rfl rfl)))
    (fun _ => de_catT (de_var 0) (de_var 1) (by simp) (by simp) (by rw [List.length_map, List.length_map]; omega)) fun _ => de_catT (de_var 1) (de_var 0) (by simp) (by simp) (by rw [List.length_map, List.length_map]; omega)) fun d e => ?_)
  rw [e, ← List.map_append, ← List.map_append]
  by_cases q : a < b
  · simp only [List.headD_cons, q, if_true, decide_true] at hR ⊢
    exact hR
  · simp only [List.headD_cons, q, if_false, decide_false, Bool.false_eq_true] at hR ⊢
    exact hR
theorem sc22 : FnScope ["web", "lot", "halving", "inside", "leaf"] ["web", "lot"] (defScope (top 22)) := ⟨rfl, rfl, rfl, by decide +kernel, rfl, by decide +kernel, by decide +kernel⟩
theorem find_succ {α : Type} {l : List α} {p : α → Bool} {i : Nat} {a : α} (ha : l[i]? = some a) : (l.drop i).find? p = if p a = true then some a else (l.drop (i + 1)).find? p := by
  have hi := (List.getElem?_eq_some_iff.mp ha)
  obtain ⟨hl, e⟩ := hi
  rw [List.drop_eq_getElem_cons hl, List.find?_cons, e]
  cases p a <;> simp
theorem ok22 (F : Fun K "four_at" "four_at" (top 22) f fd) (bm : Bi mg) (c21 : Cl false P w K mg base 1 "word_for" (spP pmWF)) : FnV false P w K mg base CX0 2 f fd ["web", "lot"] (spP pmFA) := by
  refine fnG F sc22 (fun ds R ⟨_, _, _, e, _⟩ => by rw [e]; rfl) (by decide) fun X H h ds R hX ⟨n, hs, q, ed, hq, hz, hne, hR⟩ => ?_
  obtain ⟨f, cdv, A, outer, s, H0, E, rfl, hr, gd⟩ := hX
  subst ed
  have hN := sc22.nd
  refine wss_cons (N1 := fun _ => fourAt hs q = none) (ws_forN (as := hs) (enc := tI) 2 [2, 3] (fun i s => s = [.d (netT n hs), .d (tI q), .u, .u, .u] ∧ fourAt hs q = ((hs.drop i).find? fun k => decide ((ins k q).length = 2)).map fun k => wdH k q) PassesOwn.never rfl (di_tup (de_ix (n := 1) isq_t (de_var 0) de_int rfl rfl)) (pg_name hN rfl (Or.inr rfl))
    (fun i s e => by rw [e.1]; exact no_cons nofun (no_cons nofun (no_cons nofun (no_cons nofun (no_cons nofun no_nil))))) ⟨rfl, rfl⟩ (fun i k s hk ⟨e, fe⟩ => ?_) fun s ⟨e, fe⟩ => by rw [fe, List.drop_of_length_le (Nat.le_refl _)]; rfl) fun s fe => ?_
  · subst e
    rw [find_succ hk] at fe
    have lq : (ins k q).length ≤ 4 := by rw [← hq]; exact List.length_filter_le _ _
    refine wss_cons (N1 := fun s => s = [.d (netT n hs), .d (tI q), .d (tI k), .d (lI (ins k q)), .u]) (ws_set 3 (de_lcF (as := q) (enc := .int) (out := .int) (p := fun x => decide (x ∈ k)) 4 rfl hN (di_tup (de_var 1)) (blkOk_by rfl) (fun a ha D s H C cl fp => dt_c (dc_inI hr isq_t (de_var 4) (de_var 2))) (fun a ha _ D s H C cl fp => de_var 4) (by omega)) (fun d e => by rw [e]; rfl) hN) fun s e => ?_
    subst e
    refine wss_one (ws_if (dt_c (dc_eqI (de_len rfl (bm _ (by decide)) isq_l (de_var 3)) de_int)) (fun e => ?_) fun e => wss_nil ⟨rfl, ?_⟩)
    · have e2 : (ins k q).length = 2 := by
        have := of_decide_eq_true e.symm
        rw [List.length_map] at this
        omega
      have nn := hne k (List.mem_of_getElem? hk) e2
      rw [decide_eq_true e2, if_pos rfl] at fe
      rw [fe] at hR
      refine wss_one (ws_ret (we_call c21 hr (by decide) rfl (da_cons (de_var 3) (da_cons (de_lcF (as := q) (enc := .int) (out := .int) (p := fun x => !decide (x ∈ ins k q)) 4 rfl hN (di_tup (de_var 1)) (blkOk_by rfl) (fun a ha D s H C cl fp => dt_c (dc_ninI hr isq_l (de_var 4) (de_var 3))) (fun a ha _ D s H C cl fp => de_var 4) (by omega)) wa_nil)) fun ds e => ⟨_, _, ins k q, _, e, isq_l, isq_l, fun z => ?_, nn, by omega, ?_, hR⟩) fun d r => r)
      · rw [z] at e2; cases e2
      · exact Nat.le_trans (List.length_filter_le _ _) (by omega)
    · have e2 : ¬ (ins k q).length = 2 := by
        have := of_decide_eq_false e.symm
        rw [List.length_map] at this
        omega
      rw [decide_eq_false e2] at fe
      exact fe
  · rw [fe] at hR
    exact wss_one (ws_ret de_non fun d e => by rw [e]; exact hR)
theorem sc23 : FnScope ["web", "told", "lot", "word"] ["web"] (defScope (top 23)) := ⟨rfl, rfl, rfl, by decide +kernel, rfl, by decide +kernel, by decide +kernel⟩
theorem fl4 : ∀ n < 7, ∀ q ∈ fourLots n, q.length = 4 := by decide +kernel
theorem flN : ∀ n < 7, (fourLots n).length ≤ 15 := by decide +kernel
theorem isN_optT (o : Option (List Int)) : isNon (optT o) = !o.isSome := by cases o <;> rfl
theorem filt_some (l : List (Option (List Int))) : (l.filter Option.isSome).map optT = (l.filterMap id).map tI := by
  induction l with
  | nil => rfl
  | cons o l ih =>
    cases o with
    | none => simpa using ih
    | some k => simp [ih, optT]
theorem wordFor_ne {xs ys : List Int} (h : xs ≠ []) : wordFor xs ys ≠ [] := fun z => by
  obtain ⟨a, r, e⟩ := ms_ne h
  unfold wordFor at z
  rw [e] at z
  split at z <;> simp at z
theorem fourAt_ne {hs : List (List Int)} {q : List Int} {k : List Int} (e : fourAt hs q = some k) : k ≠ [] := by
  unfold fourAt at e
  cases q' : hs.find? (fun k => decide ((ins k q).length = 2)) with
  | none => rw [q'] at e; cases e
  | some y =>
    rw [q'] at e
    have e1 := Option.some.inj e
    have e2 := List.find?_some q'
    rw [← e1]
    refine wordFor_ne fun z => ?_
    have := of_decide_eq_true e2
    rw [z] at this
    cases this
theorem ok23 (F : Fun K "four_words" "four_words" (top 23) f fd) (bm : Bi mg) (c20 : Cl false P w K mg base 1 "four_lots" (spP pmFL)) (c22 : Cl false P w K mg base 2 "four_at" (spP pmFA)) : FnV false P w K mg base CX0 3 f fd ["web"] (spP pmFWs) := by
  refine fnG F sc23 (fun ds R ⟨_, _, e, _⟩ => by rw [e]; rfl) (by decide) fun X H h ds R hX ⟨n, hs, ed, hn, hz, hne, hR⟩ => ?_
  obtain ⟨f, cdv, A, outer, s, H0, E, rfl, hr, gd⟩ := hX
  subst ed
  have hN := sc23.nd
  have lf := flN n (by omega)
  refine wss_cons (N1 := fun s => s = [.d (netT n hs), .d (.list ((fourLots n).map fun q => optT (fourAt hs q))), .u, .u]) (ws_lcN (as := fourLots n) (enc := tI) (out := fun q => optT (fourAt hs q)) (p := fun _ => true) 1 2 rfl hN (di_list (we_call c20 hr (by decide) rfl (da_cons (de_ix (n := 0) isq_t (de_var 0) de_int rfl rfl) wa_nil) fun ds e => ⟨n, e, hn, rfl⟩)) (blkOk_by rfl) (fun a ha D s H C cl fp => rfl)
    (fun a ha _ D s H C cl fp => we_call c22 hr (by decide) rfl (da_cons (de_var 0) (da_cons (de_var 2) wa_nil)) fun ds e => ⟨n, hs, a, e, fl4 n (by omega) a ha, hz, hne a ha, rfl⟩) (by omega) ?_) fun s e => ?_
  · rw [filt_true]
    rfl
  subst e
  have ew : ((fourLots n).map (fourAt hs)).filterMap id = wordsOf n hs := by
    unfold wordsOf
    rw [List.filterMap_map]
    rfl
  have lw : (wordsOf n hs).length ≤ 15 := Nat.le_trans (List.length_filterMap_le _ _) lf
  refine wss_one (ws_ret (de_tuple rfl (bm _ (by decide)) isq_l (de_sortT (ks := wordsOf n hs) hr rfl rfl (bm _ (by decide)) (by omega) (fun z => ?_) (.inl isq_l) (WE.eq (de_lcF (as := (fourLots n).map (fourAt hs)) (enc := optT) (out := optT) (p := Option.isSome) 3 rfl hN (di_list ?_) (blkOk_by rfl) (fun a ha D s H C cl fp => WT.eq (dt_c (dc_notN (de_var 3))) (by rw [isN_optT, Bool.not_not])) (fun a ha _ D s H C cl fp => de_var 3) (by rw [List.length_map]; omega)) ?_))) fun d e => by rw [e]; exact hR)
  · unfold wordsOf at z
    obtain ⟨q, _, hq⟩ := List.mem_filterMap.mp z
    exact fourAt_ne hq rfl
  · exact WE.eq (de_var 1) (by rw [List.map_map]; rfl)
  · rw [filt_some, ew]
theorem sc24 : FnScope ["words", "place", "word", "other"] ["words"] (defScope (top 24)) := ⟨rfl, rfl, rfl, by decide +kernel, rfl, by decide +kernel, by decide +kernel⟩
theorem ok24 (F : Fun K "first_two" "first_two" (top 24) f fd) (bm : Bi mg) : FnV false P w K mg base CX0 1 f fd ["words"] (spP pmF2) := by
  refine fnG F sc24 (fun ds R ⟨_, e, _⟩ => by rw [e]; rfl) (by decide) fun X H h ds R hX ⟨ws, ed, hz, hk, hR⟩ => ?_
  obtain ⟨f, cdv, A, outer, s, H0, E, rfl, hr, gd⟩ := hX
  subst ed
  have hN := sc24.nd
  refine wss_cons (N1 := fun _ => firstTwo ws = none) (ws_forP (as := ws) (enc := tI) 1 2 [3, 1, 2] (fun i s => s = [.d (lTs ws), .u, .u, .u] ∧ firstTwo ws = firstTwo (ws.drop i)) (by decide) PassesOwn.never rfl (di_enum rfl (bm _ (by decide)) (de_var 0)) (pg_tup rfl (pgs_cons (pg_name hN rfl (Or.inl rfl)) (pgs_cons (pg_name hN rfl (Or.inl rfl)) pgs_nil)))
    (fun i s e => by rw [e.1]; exact no_cons nofun (no_cons nofun (no_cons nofun (no_cons nofun no_nil)))) ⟨rfl, rfl⟩ (fun i wd s hw ⟨e, fe⟩ => ?_) fun s ⟨e, fe⟩ => by rw [fe, List.drop_of_length_le (Nat.le_refl _)]; rfl) fun s fe => ?_
  · subst e
    obtain ⟨hl, ew⟩ := List.getElem?_eq_some_iff.mp hw
    have hd : ws.drop i = wd :: ws.drop (i + 1) := by rw [List.drop_eq_getElem_cons hl, ew]
    rw [hd] at fe
    have kwd := hk wd (List.mem_of_getElem? hw)
    refine wss_one (ws_forN (as := ws.drop (i + 1)) (enc := tI) 3 [3] (fun k s => s = [.d (lTs ws), .d (.int (i : Nat)), .d (tI wd), .u] ∧ (ws.drop (i + 1)).find? (fun o => decide (srtI o = srtI wd)) = ((ws.drop (i + 1)).drop k).find? (fun o => decide (srtI o = srtI wd))) PassesOwn.never rfl (di_list (WE.eq (de_from (n := i + 1) (de_var 0) (WE.eq (de_add (de_var 1) de_int) (by congr 1))) ?_)) (pg_name hN rfl (Or.inl rfl))
      (fun i s e => by rw [e.1]; exact no_cons nofun (no_cons nofun (no_cons nofun (no_cons nofun no_nil)))) ⟨rfl, rfl⟩ (fun k o s ho ⟨e, fo⟩ => ?_) fun s ⟨e, fo⟩ => ?_)
    · rw [← List.map_drop]
    · subst e
      have ko := hk o (List.mem_of_mem_drop (List.mem_of_getElem? ho))
      rw [find_succ ho] at fo
      refine wss_one (ws_if (dt_c (dc_eqLI hr (de_sortI (ns := o) hr rfl rfl (bm _ (by decide)) (by omega) isq_t (de_var 3)) (de_sortI (ns := wd) hr rfl rfl (bm _ (by decide)) (by omega) isq_t (de_var 2)))) (fun e => ?_) fun e => wss_nil ⟨rfl, ?_⟩)
      · have e2 : srtI o = srtI wd := of_decide_eq_true e.symm
        rw [decide_eq_true e2, if_pos rfl] at fo
        rw [fe, firstTwo_cons, fo] at hR
        exact wss_one (ws_ret (de_tup (da_cons (de_var 2) (da_cons (de_var 3) wa_nil))) fun d ed => by rw [ed]; exact hR)
      · have e2 : ¬ srtI o = srtI wd := of_decide_eq_false e.symm
        rw [decide_eq_false e2] at fo
        exact fo
    · subst e
      rw [List.drop_of_length_le (Nat.le_refl (ws.drop (i + 1)).length)] at fo
      refine ⟨rfl, ?_⟩
      rw [fe, firstTwo_cons, fo]
      rfl
  · rw [fe] at hR
    exact wss_one (ws_ret de_non fun d e => by rw [e]; exact hR)
end
end F26

/-! walks: is_carried, four_fault -/
namespace F26
open PySem PySem.Spec L2

section
variable {X : Cx} {B : Bs} {h : List Addr} {ss : List Sl} {e : Expr} {pos tpos p1 p2 p3 p4 : Pos} {N : List Sl → Prop} {R : List Sl → PyData → Prop} {n1 n2 n3 n4 : Str}
theorem ws_un4 (i j k l : Nat) {kk : Nat} {d1 d2 d3 d4 : PyData} (hc : X.calm = true) (w : DE X B h e ss (.tuple [d1, d2, d3, d4])) (q : N ((((ss.set i (.d d1)).set j (.d d2)).set k (.d d3)).set l (.d d4)))
    (g1 : PG X (.Name n1 p1) (gName i)) (g2 : PG X (.Name n2 p2) (gName j)) (g3 : PG X (.Name n3 p3) (gName k)) (g4 : PG X (.Name n4 p4) (gName l))
    (hs : swapsWithSole [.Tuple [.Name n1 p1, .Name n2 p2, .Name n3 p3, .Name n4 p4] kk tpos] e pos.line X.env = pure false := by rfl) (hw : swappedStores [.Tuple [.Name n1 p1, .Name n2 p2, .Name n3 p3, .Name n4 p4] kk tpos] e X.env = pure none := by rfl)
    (h1 : (assignEach [.Tuple [.Name n1 p1, .Name n2 p2, .Name n3 p3, .Name n4 p4] kk tpos] X.env).map (·.2) = [assign (.Tuple [.Name n1 p1, .Name n2 p2, .Name n3 p3, .Name n4 p4] kk tpos) X.env] := by rfl) :
    WS X B h (.Assign [.Tuple [.Name n1 p1, .Name n2 p2, .Name n3 p3, .Name n4 p4] kk tpos] e pos) ss N R := fun σ H D en k1 _ =>
  wS_of (ps_asg pe_w (pg_tup (n := 4) hc (pgs_cons g1 (pgs_cons g2 (pgs_cons g3 (pgs_cons g4 pgs_nil))))) hs hw h1) (w σ H _ en fun v H1 d kp e1 dd ed => by
    subst ed
    cases dd with
    | tup q0 r =>
      cases r with
      | cons r1 r =>
        cases r with
        | cons r2 r =>
          cases r with
          | cons r3 r =>
            cases r with
            | cons r4 r =>
              cases r
              have E1 := e1.set_d (i := i) r1
              have E2 := E1.set_d (i := j) r2
              have E3 := E2.set_d (i := k) r3
              have E4 := E3.set_d (i := l) r4
              refine ⟨_, _, rfl, SqT.of (hid_some.mp q0).2, rfl, _, _, rfl, _, _, rfl, _, _, rfl, _, _, rfl, rfl, ?_⟩
              exact k1 _ H1 _ (.of kp fun p z => own_set (fun _ _ => by nofun) p (own_set (fun _ _ => by nofun) p (own_set (fun _ _ => by nofun) p (own_set (fun _ _ => by nofun) p z)))) E4 q)
end
def pmIC : List PyData → (PyData → Prop) → Prop := fun ds R => ∃ ks a b c d l, ds = [dTd ks, tI [a, b, c, d], .int l] ∧ ∀ t, R (.bool t)
def ordOf (ws : List (List Int)) : List (List Int) := (ddK ws).mergeSort leT
def pmFF : List PyData → (PyData → Prop) → Prop := fun ds R => ∃ (n : Nat) (ws : List (List Int)), ds = [.int (n : Int), tTs ws] ∧ n ≤ 100 ∧ ws.length ≤ 100 ∧ (∀ k ∈ ws, k.length = 4) ∧
  (∀ a b, firstTwo (ordOf ws) = some (a, b) → R (.tuple [.str "two", tI a, tI b])) ∧ (firstTwo (ordOf ws) = none → R .none ∧ ∀ k (l : Int), R (.tuple [.str "lacks", tI k, .int l]))
theorem mem_ordOf {ws : List (List Int)} {k : List Int} : k ∈ ordOf ws ↔ k ∈ ws := by
  unfold ordOf
  rw [List.mem_mergeSort, mem_ddK]
section
variable {P : Program} {w : World} {K : PySem.W.Frag} {mg : Str → Option Value} {base : Heap} {f : Addr} {fd : FuncData}
theorem sc25 : FnScope ["known", "word", "leaf", "one", "two", "three", "four"] ["known", "word", "leaf"] (defScope (top 25)) := ⟨rfl, rfl, rfl, by decide +kernel, rfl, by decide +kernel, by decide +kernel⟩
theorem ok25 (F : Fun K "is_carried" "is_carried" (top 25) f fd) (c21 : Cl false P w K mg base 1 "word_for" (spP pmWF)) : FnV false P w K mg base CX0 2 f fd ["known", "word", "leaf"] (spP pmIC) := by
  refine fnG F sc25 (fun ds R ⟨_, _, _, _, _, _, e, _⟩ => by rw [e]; rfl) (by decide) fun X H h ds R hX ⟨ks, a, b, c, d, l, ed, hR⟩ => ?_
  obtain ⟨f, cdv, A, outer, s, H0, E, rfl, hr, gd⟩ := hX
  subst ed
  have hN := sc25.nd
  have hu : _ + 1 < cLine := Nat.lt_of_le_of_lt (Nat.add_le_add_left (by decide : 1 ≤ 64) _) hr.units
  refine wss_cons (N1 := fun s => s = [.d (dTd ks), .d (tI [a, b, c, d]), .d (.int l), .d (.int a), .d (.int b), .d (.int c), .d (.int d)]) (ws_un4 3 4 5 6 rfl (de_var 1) rfl (pg_name hN rfl (Or.inl rfl)) (pg_name hN rfl (Or.inl rfl)) (pg_name hN rfl (Or.inl rfl)) (pg_name hN rfl (Or.inl rfl))) fun s e => ?_
  subst e
  have wf : ∀ (x1 x2 y1 y2 : Int), ∀ R' : PyData → Prop, R' (tI (wordFor [x1, x2] [y1, y2])) → pmWF [.tuple [.int x1, .int x2], .tuple [.int y1, .int y2]] R' := fun x1 x2 y1 y2 R' z =>
    ⟨_, _, [x1, x2], [y1, y2], rfl, isq_t, isq_t, by simp, by simp, by simp, by simp, z⟩
  refine wss_cons (N1 := fun s => s = [.d (dTd ks), .d (tI [a, b, c, d]), .d (.int l), .d (.int a), .d (.int b), .d (.int c), .d (.int d)]) (ws_if (dt_and
    (dt_c (dc_inT (k := wordFor [a, b] [c, l]) hu (we_call c21 hr (by decide) rfl (da_cons (de_tup (da_cons (de_var 3) (da_cons (de_var 4) wa_nil))) (da_cons (de_tup (da_cons (de_var 5) (da_cons (de_var 2) wa_nil))) wa_nil)) fun ds e => by rw [e]; exact wf _ _ _ _ _ rfl) (de_var 0)))
    fun _ => dt_c (dc_inT (k := wordFor [a, b] [d, l]) hu (we_call c21 hr (by decide) rfl (da_cons (de_tup (da_cons (de_var 3) (da_cons (de_var 4) wa_nil))) (da_cons (de_tup (da_cons (de_var 6) (da_cons (de_var 2) wa_nil))) wa_nil)) fun ds e => by rw [e]; exact wf _ _ _ _ _ rfl) (de_var 0)))
    (fun _ => wss_one (ws_ret de_bl fun d e => by rw [e]; exact hR _)) fun _ => wss_nil rfl) fun s e => ?_
  subst e
  exact wss_one (ws_ret (de_andV (de_c (dc_inT (k := wordFor [a, l] [c, d]) hu (we_call c21 hr (by decide) rfl (da_cons (de_tup (da_cons (de_var 3) (da_cons (de_var 2) wa_nil))) (da_cons (de_tup (da_cons (de_var 5) (da_cons (de_var 6) wa_nil))) wa_nil)) fun ds e => by rw [e]; exact wf _ _ _ _ _ rfl) (de_var 0)))
    fun _ => de_andV1 (de_c (dc_inT (k := wordFor [b, l] [c, d]) hu (we_call c21 hr (by decide) rfl (da_cons (de_tup (da_cons (de_var 4) (da_cons (de_var 2) wa_nil))) (da_cons (de_tup (da_cons (de_var 5) (da_cons (de_var 6) wa_nil))) wa_nil)) fun ds e => by rw [e]; exact wf _ _ _ _ _ rfl) (de_var 0)))) fun d e => by rw [e]; exact hR _)
theorem sc26 : FnScope ["size", "words", "known", "ordered", "pair", "word", "leaf"] ["size", "words"] (defScope (top 26)) := ⟨rfl, rfl, rfl, by decide +kernel, rfl, by decide +kernel, by decide +kernel⟩
theorem isN_optTT (o) : isNon (optTT o) = !o.isSome := by cases o <;> rfl
theorem ok26 (F : Fun K "four_fault" "four_fault" (top 26) f fd) (bm : Bi mg) (c24 : Cl false P w K mg base 1 "first_two" (spP pmF2)) (c25 : Cl false P w K mg base 2 "is_carried" (spP pmIC)) : FnV false P w K mg base CX0 3 f fd ["size", "words"] (spP pmFF) := by
  refine fnG F sc26 (fun ds R ⟨_, _, e, _⟩ => by rw [e]; rfl) (by decide) fun X H h ds R hX ⟨n, ws, ed, hn, hz, h4, hR, hR0⟩ => ?_
  obtain ⟨f, cdv, A, outer, s, H0, E, rfl, hr, gd⟩ := hX
  subst ed
  have hN := sc26.nd
  have ld := ddK_len ws
  have lo : (ordOf ws).length ≤ 100 := by unfold ordOf; rw [List.length_mergeSort]; omega
  refine wss_cons (N1 := fun s => s = [.d (.int (n : Int)), .d (tTs ws), .d (dTd (ddK ws)), .u, .u, .u, .u]) (ws_set 2 (de_dictT (ks := ws) hr rfl (bm _ (by decide)) (by omega) (de_lcM (as := ws) (enc := tI) (out := pTD) 5 rfl hN (di_tup (de_var 1)) (blkOk_by rfl) (fun a ha D s H C cl fp => de_tup (da_cons (de_var 5) (da_cons de_bl wa_nil))) (by omega))) (fun d e => by rw [e]; rfl) hN) fun s e => ?_
  subst e
  refine wss_cons (N1 := fun s => s = [.d (.int (n : Int)), .d (tTs ws), .d (dTd (ddK ws)), .d (lTs (ordOf ws)), .u, .u, .u]) (ws_set 3 (de_sortT (ks := ddK ws) hr rfl rfl (bm _ (by decide)) (by omega) (fun z => by have := h4 _ (mem_ddK.mp z); cases this) src_dT (de_var 2)) (fun d e => by rw [e]; rfl) hN) fun s e => ?_
  subst e
  have k4 : ∀ k ∈ ordOf ws, k.length = 4 := fun k hk => h4 k (mem_ordOf.mp hk)
  refine wss_cons (N1 := fun s => s = [.d (.int (n : Int)), .d (tTs ws), .d (dTd (ddK ws)), .d (lTs (ordOf ws)), .d (optTT (firstTwo (ordOf ws))), .u, .u]) (ws_set 4 (we_call (R := fun x => x = optTT (firstTwo (ordOf ws))) c24 hr (by decide) rfl (da_cons (de_var 3) wa_nil) fun ds e => ⟨_, e, by omega, fun k hk => by rw [k4 k hk]; decide, rfl⟩) (fun d e => by rw [e]; rfl) hN) fun s e => ?_
  subst e
  cases ef : firstTwo (ordOf ws) with
  | some ab =>
    obtain ⟨a, b⟩ := ab
    refine wss_cons (N1 := fun _ => False) (ws_if (dt_c (dc_notN (de_var 4))) (fun _ => wss_one (ws_ret (de_tup (da_cons de_str (da_cons (de_ix (n := 0) isq_t (de_var 4) de_int rfl rfl) (da_cons (de_ix (n := 1) isq_t (de_var 4) de_int rfl rfl) wa_nil)))) fun d e => by rw [e]; exact hR a b ef)) fun e => by cases e) fun s e => e.elim
  | none =>
    obtain ⟨hR0, hR1⟩ := hR0 ef
    refine wss_cons (N1 := fun s => s = [.d (.int (n : Int)), .d (tTs ws), .d (dTd (ddK ws)), .d (lTs (ordOf ws)), .d .none, .u, .u]) (ws_if (dt_c (dc_notN (de_var 4))) (fun e => by cases e) fun _ => wss_nil rfl) fun s e => ?_
    subst e
    refine wss_cons (N1 := fun _ => True) (ws_forN (as := ordOf ws) (enc := tI) 5 [5, 6] (fun i s => s = [.d (.int (n : Int)), .d (tTs ws), .d (dTd (ddK ws)), .d (lTs (ordOf ws)), .d .none, .u, .u]) PassesOwn.never rfl (di_list (de_var 3)) (pg_name hN rfl (Or.inl rfl))
      (fun i s e => by rw [e]; exact no_cons nofun (no_cons nofun (no_cons nofun (no_cons nofun (no_cons nofun (no_cons nofun (no_cons nofun no_nil))))))) rfl (fun i wd s hw e => ?_) fun s e => trivial) fun s _ => wss_one (ws_ret de_non fun d e => by rw [e]; exact hR0)
    subst e
    have k := k4 wd (List.mem_of_getElem? hw)
    obtain ⟨a, b, c, d, ew⟩ : ∃ a b c d, wd = [a, b, c, d] := by
      match wd, k with
      | [a, b, c, d], _ => exact ⟨a, b, c, d, rfl⟩
    refine wss_one (ws_forRN (mm := n) (lo := 0) 6 [6] (fun i s => s = [.d (.int (n : Int)), .d (tTs ws), .d (dTd (ddK ws)), .d (lTs (ordOf ws)), .d .none, .d (tI wd), .u]) PassesOwn.never rfl (wr1 _ rfl (bm _ (by decide)) (de_var 0) rfl (by omega)) (pg_name hN rfl (Or.inl rfl)) rfl (fun i s hi e => ?_) fun s e => by rw [e]; rfl)
    subst e
    refine wss_one (ws_if (S := fun _ => True) (wt_w (ww_and (T := fun _ => True) (dt_c (dc_ninI hr isq_t (de_var 6) (de_var 5))) (fun _ => ww_and1 (wt_not (wt_val (we_call c25 hr (by decide) rfl (da_cons (de_var 2) (da_cons (de_var 5) (da_cons (de_var 6) wa_nil))) fun ds e => ⟨ddK ws, a, b, c, d, 0 + ((i : Nat) : Int), by rw [e, ew], fun t => ⟨t, rfl, trivial⟩⟩)))) fun _ => trivial)) (fun _ => wss_one (ws_ret (de_tup (da_cons de_str (da_cons (de_var 5) (da_cons (de_var 6) wa_nil)))) fun d e => by rw [e]; exact hR1 _ _)) fun _ => wss_nil rfl)
end
end F26

/-! walks: the draw -/
namespace F26
open PySem PySem.Spec L2

def pmDraw : List PyData → (PyData → Prop) → Prop := fun ds R => ∃ m : Nat, ds = [.int (m : Int)] ∧ 0 < m ∧ m < 1000000 ∧ ∀ i : Nat, i < m → R (.int (i : Int))
section
variable {P : Program} {w : World} {K : PySem.W.Frag} {mg : Str → Option Value} {base : Heap} {f : Addr} {fd : FuncData}
theorem sc33 : FnScope ["_law_fount_here", "_law_many", "_law_whole", "_law_stirred"] ["_law_fount_here", "_law_many"] (defScope (top 33)) := ⟨rfl, rfl, rfl, by decide +kernel, rfl, by decide +kernel, by decide +kernel⟩
theorem fmod_nat {i : Int} {m : Nat} (h : 0 < m) : ∃ k : Nat, k < m ∧ i.fmod (m : Int) = (k : Int) := by
  have h1 := Int.fmod_nonneg_of_pos i (b := (m : Int)) (by omega)
  have h2 := Int.fmod_lt_of_pos i (b := (m : Int)) (by omega)
  exact ⟨(i.fmod (m : Int)).toNat, by omega, by omega⟩
theorem fmod_st (i : Int) : 0 ≤ i.fmod 18446744073709551557 ∧ i.fmod 18446744073709551557 < 18446744073709551616 := by
  have h1 := Int.fmod_nonneg_of_pos i (b := (18446744073709551557 : Int)) (by decide)
  have h2 := Int.fmod_lt_of_pos i (b := (18446744073709551557 : Int)) (by decide)
  omega
theorem cm_st (i : Int) : CMul (i.fmod 18446744073709551557) (i.fmod 18446744073709551557) := .inl ⟨by have := fmod_st i; omega, by have := fmod_st i; omega⟩
theorem ix0 {n : Nat} (h : 0 < n) : ixN n 0 = some 0 := by
  unfold ixN
  rw [if_pos (by decide), if_pos (by omega)]
  rfl
theorem drawR {R : PyData → Prop} {m : Nat} (m0 : 0 < m) (hR : ∀ i : Nat, i < m → R (.int (i : Int))) (j : Int) : R (.int (j.fmod (m : Int))) := by
  obtain ⟨i, hi, ei⟩ := fmod_nat (i := j) m0
  rw [ei]
  exact hR i hi
theorem ok33 (F : Fun K "_law_draw" "_law_draw" (top 33) f fd) (bm : Bi mg) : FnV false P w K mg base CX0 1 f fd ["_law_fount_here", "_law_many"] (spI pmDraw) := by
  refine fnV_of F sc33 (fun vs H Q E ⟨h, F, G, vr, ds, R, ev, _, _, _, _, dd, ⟨m, ed, _⟩, _⟩ => by rw [ev, List.length_cons, dd.length, ed]; rfl) fun cdv A outer s H vs Q E gd hr ⟨h, F, G, vr, ds, R, ev, hF, hG, dom, ⟨nFG, gs, st, ct, eF, eG, st0, st1⟩, dd, ⟨m, ed, m0, m1, hR⟩, q⟩ => ?_
  subst ev ed
  have hN := sc33.nd
  cases dd with
  | cons d1 dd =>
  cases dd
  cases d1
  have tint : mg "int" = none := bm _ (by decide)
  refine ⟨_, (pss_cons (ps_if (pt_cmpR (op_neD hr.units) (pe_ix ix_list (pv 0) pe_int (fun _ _ => rfl)) (pe_lst pa_nil) (nomark _))
      (pss_cons (ps_set (i := 2) hN rfl (Or.inl rfl) (pe_ix ix_list (pe_ix ix_list (pv 0) pe_int (fun _ _ => rfl)) pe_int (fun _ _ => rfl)))
      (pss_cons (ps_asg (pe_op op_fdivN (pv 2) (pv 1)) (pg_sub (pe_ix ix_list (pv 0) pe_int (fun _ _ => rfl)) pe_int set_list))
      (pss_cons (ps_if (pt_cmpR op_lt (pv 2) (pv 1) (nomark _)) (pss_one (ps_expr (pe_bm PySem.F.plainAttrs_list PySem.F.slot_list_pop PySem.F.type_list_pop L2.mt_popAt (pe_ix ix_list (pv 0) pe_int (fun _ _ => rfl)) (pa_cons pe_int pa_nil)))) pss_nil)
      (pss_one (ps_ret (pe_op op_modN (pe_callTy call_int1 rfl tint (by decide +kernel) (pa_cons (pv 2) pa_nil)) (pv 1)))))))
      pss_nil)
    (pss_cons (ps_asg (pe_op op_add (pe_ix ix_list (pv 0) pe_int (fun _ _ => rfl)) pe_int) (pg_sub (pv 0) pe_int set_list))
    (pss_cons (ps_set (i := 3) hN rfl (Or.inl rfl) (pe_op op_modN (pe_callTy call_int1 rfl tint (by decide +kernel) (pa_cons (pe_op op_add (pe_ix ix_list (pv 0) pe_int (fun _ _ => rfl)) (pe_op op_mul (pe_ix ix_list (pv 0) pe_int (fun _ _ => rfl)) pe_int)) pa_nil)) pe_int))
    (pss_cons (ps_set (i := 3) hN rfl (Or.inl rfl) (pe_op op_modN (pe_callTy call_int1 rfl tint (by decide +kernel) (pa_cons (pe_op op_add (pe_op op_mul (pv 3) (pv 3)) (pe_op op_mul pe_int (pe_ix ix_list (pv 0) pe_int (fun _ _ => rfl)))) pa_nil)) pe_int))
    (pss_cons (ps_set (i := 3) hN rfl (Or.inl rfl) (pe_op op_modN (pe_callTy call_int1 rfl tint (by decide +kernel) (pa_cons (pe_op op_add (pe_op op_mul (pv 3) (pv 3)) (pe_ix ix_list (pv 0) pe_int (fun _ _ => rfl))) pa_nil)) pe_int))
    (pss_one (ps_ret (pe_op op_modN (pe_callTy call_int1 rfl tint (by decide +kernel) (pa_cons (pe_op op_fdivN (pv 3) pe_int) pa_nil)) (pv 1)))))))) : PSs (cxOf CX0 P w K mg base ["_law_fount_here", "_law_many", "_law_whole", "_law_stirred"] "_law_draw" (defScope (top 33)) f cdv A outer s H E).nox (defBody (top 33)) _).nox, ?_⟩
  have a0 : ∀ {α : Type} {x : α} {l : List α}, atI (x :: l) 0 = some x := fun {α x l} => atI_nat (j := 0) rfl
  have a1 : ∀ {α : Type} {x y : α} {l : List α}, atI (x :: y :: l) 1 = some y := fun {α x y l} => atI_nat (j := 1) rfl
  have a2 : ∀ {α : Type} {x y z : α} {l : List α}, atI (x :: y :: z :: l) 2 = some z := fun {α x y z l} => atI_nat (j := 2) rfl
  -- f[0] != []
  refine ⟨_, rfl, _, _, _, _, rfl, rfl, SqL.of eF, a0, Nat.zero_le _, fun p hp => ?_⟩
  have eF' : upd H p (.lst []) F = some (.lst [.ref G, .int st, .int ct]) := by rw [upd_ne (ne_of_none eF hp)]; exact eF
  have eG' : upd H p (.lst []) G = some (.lst (gs.map V.int)) := by rw [upd_ne (ne_of_none eG hp)]; exact eG
  refine ⟨lI gs, lI [], .lst (SqL.of eG') ?_, .lst (SqL.of upd_same) .nil, shp_lI, shp_lI, _, rfl, ?_⟩
  · exact (DaL.of_ints gs).dp (lay_ints gs)
  rw [eqv_lI]
  have dm : ∀ {H2 : Hp}, (∀ b o, b ∉ [F, G] → upd H p (.lst []) b = some o → H2 b = some o) → Same (hid [F, G] H) (hid [F, G] H2) := fun hk b o z => by
    obtain ⟨z1, z2⟩ := hid_some.mp z
    exact hid_some.mpr ⟨z1, hk b o z1 (by rw [upd_ne (ne_of_none z2 hp)]; exact z2)⟩
  have nGF : G ≠ F := fun z => nFG z.symm
  have nb : ∀ {b : Addr}, b ∉ [F, G] → b ≠ F ∧ b ≠ G := fun {b} z => ⟨fun y => z (by rw [y]; exact List.mem_cons_self), fun y => z (by rw [y]; simp)⟩
  cases gs with
  | cons g r =>
    refine iteT ?_
    refine ⟨_, rfl, _, _, _, _, rfl, rfl, SqL.of eF', a0, _, _, _, _, rfl, rfl, SqL.of eG', a0, ?_⟩
    refine ⟨_, rfl, _, rfl, _, _, rfl, rfl, ⟨by omega, by omega⟩, _, rfl, _, _, _, _, rfl, rfl, SqL.of eF', a0, G, _, _, 0, rfl, rfl, eG', ix0 (by simp), ?_⟩
    have eF2 : upd (upd H p (.lst [])) G (.lst ((V.int g :: r.map V.int).set 0 (.int (g.fdiv (m : Int))))) F = some (.lst [.ref G, .int st, .int ct]) := by rw [upd_ne nFG]; exact eF'
    refine ⟨_, rfl, _, rfl, _, _, rfl, rfl, _, rfl, ?_⟩
    by_cases hlt : g < (m : Int)
    · rw [decide_eq_true hlt]
      refine iteT ⟨_, rfl, _, _, _, _, rfl, rfl, SqL.of eF2, a0, .inl ⟨rfl, _, SqL.of upd_same⟩, G, _, 0, 0, _, rfl, rfl, upd_same, by decide, by decide, sIdx_nat (k := 0) (by simp), rfl, ?_⟩
      refine ⟨_, rfl, .inl ⟨g, rfl, _, rfl, _, _, rfl, rfl, (by show (m : Int) ≠ 0; omega), ?_⟩⟩
      refine q _ _ (.int (g.fmod (m : Int))) (dm fun b o hb e => ?_) ⟨nFG, r, st, ct, ?_, upd_same, st0, st1⟩ (.int _) (drawR m0 hR _)
      · rw [upd_ne (nb hb).2, upd_ne (nb hb).2]
        exact e
      · rw [upd_ne nFG]
        exact eF2
    · rw [decide_eq_false hlt]
      refine iteF ?_
      refine ⟨_, rfl, .inl ⟨g, rfl, _, rfl, _, _, rfl, rfl, (by show (m : Int) ≠ 0; omega), ?_⟩⟩
      refine q _ _ (.int (g.fmod (m : Int))) (dm fun b o hb e => ?_) ⟨nFG, g.fdiv (m : Int) :: r, st, ct, eF2, upd_same, st0, st1⟩ (.int _) (drawR m0 hR _)
      rw [upd_ne (nb hb).2]
      exact e
  | nil =>
    refine iteF ?_
    refine ⟨_, rfl, _, _, _, _, rfl, rfl, SqL.of eF', a2, _, _, rfl, rfl, _, rfl, F, _, _, 2, rfl, rfl, eF', rfl, ?_⟩
    have eF2 : upd (upd H p (.lst [])) F (.lst ([V.ref G, .int st, .int ct].set 2 (.int (ct + 1)))) F = some (.lst [.ref G, .int st, .int (ct + 1)]) := upd_same
    refine ⟨_, rfl, _, _, _, _, rfl, rfl, SqL.of eF2, a1, _, rfl, _, _, _, _, rfl, rfl, SqL.of eF2, a2, _, _, rfl, rfl, .inr ⟨by decide, by decide⟩, _, _, rfl, rfl, .inl ⟨_, rfl, _, _, rfl, rfl, (by show (18446744073709551557 : Int) ≠ 0; decide), ?_⟩⟩
    refine ⟨_, rfl, _, rfl, _, _, rfl, rfl, cm_st _, _, rfl, _, _, _, _, rfl, rfl, SqL.of eF2, a2, _, _, rfl, rfl, .inl ⟨by decide, by decide⟩, _, _, rfl, rfl, .inl ⟨_, rfl, _, _, rfl, rfl, (by show (18446744073709551557 : Int) ≠ 0; decide), ?_⟩⟩
    refine ⟨_, rfl, _, rfl, _, _, rfl, rfl, cm_st _, _, rfl, _, _, _, _, rfl, rfl, SqL.of eF2, a1, _, _, rfl, rfl, .inl ⟨_, rfl, _, _, rfl, rfl, (by show (18446744073709551557 : Int) ≠ 0; decide), ?_⟩⟩
    refine ⟨_, rfl, _, _, rfl, rfl, ⟨by decide, by decide⟩, .inl ⟨_, rfl, _, rfl, _, _, rfl, rfl, (by show (m : Int) ≠ 0; omega), ?_⟩⟩
    refine q _ _ _ (dm fun b o hb e => ?_) ⟨nFG, [], st, ct + 1, eF2, ?_, st0, st1⟩ (.int _) (drawR m0 hR _)
    · rw [upd_ne (nb hb).1]
      exact e
    · rw [upd_ne nGF]
      exact eG'
end
end F26

/-! walks: pick, mixed, masks -/
namespace F26
open PySem PySem.Spec L2

/-! ### bits of naturals -/
theorem bnot2 (x : Int) : Builtin.bitNot (Builtin.bitNot x) = x := by unfold Builtin.bitNot; omega
theorem and_nat (a b : Nat) : Builtin.bitAnd (a : Int) (b : Int) = ((a &&& b : Nat) : Int) := by
  unfold Builtin.bitAnd
  rw [decide_eq_true (Int.natCast_nonneg a), decide_eq_true (Int.natCast_nonneg b)]
  rfl
theorem or_nat (a b : Nat) : Builtin.bitOr (a : Int) (b : Int) = ((a ||| b : Nat) : Int) := by
  unfold Builtin.bitOr Builtin.bitAnd
  have h : ∀ n : Nat, decide (0 ≤ Builtin.bitNot (n : Int)) = false := fun n => decide_eq_false (by unfold Builtin.bitNot; omega)
  rw [h a, h b]
  simp only [bnot2]
  rfl
theorem xor_nat' : ∀ a < 64, ∀ b < 64, ((a ||| b : Nat) : Int) - ((a &&& b : Nat) : Int) = ((a ^^^ b : Nat) : Int) := by decide +kernel
theorem xor_nat {a b : Nat} (ha : a < 64) (hb : b < 64) : Builtin.bitXor (a : Int) (b : Int) = ((a ^^^ b : Nat) : Int) := by
  unfold Builtin.bitXor
  rw [or_nat, and_nat]
  exact xor_nat' a ha b hb
def lN (ms : List Nat) : PyData := lI (ms.map Int.ofNat)
def iN (m : Nat) : PyData := .int (m : Int)
theorem lN_eq (ms : List Nat) : lN ms = .list (ms.map iN) := by unfold lN lI; rw [List.map_map]; rfl
theorem perm_erase {α : Type} : ∀ {l : List α} {i : Nat} {a : α}, l[i]? = some a → l.Perm (a :: l.eraseIdx i)
  | [], _, _, e => by simp at e
  | x :: l, 0, a, e => by
    simp only [List.getElem?_cons_zero, Option.some.injEq] at e
    subst e
    exact .refl _
  | x :: l, i + 1, a, e => by
    have := perm_erase (l := l) (i := i) (a := a) (by simpa using e)
    exact (this.cons x).trans (.swap a x _)
theorem map_erase {α β : Type} {g : α → β} : ∀ {l : List α} {i : Nat}, (l.map g).eraseIdx i = (l.eraseIdx i).map g
  | [], _ => rfl
  | x :: l, 0 => rfl
  | x :: l, i + 1 => by
    show g x :: (l.map g).eraseIdx i = g x :: (l.eraseIdx i).map g
    rw [map_erase]
section
variable {X : Cx} {B : Bs} {h : List Addr} {ss : List Sl} {a b : Expr} {j : Int}
theorem wc_ltN {Ra : Int → Prop} (ha : WE X B h a ss fun d => ∃ i, d = .int i ∧ Ra i) (hb : DE X B h b ss (.int j)) : WC X B h .Lt a b ss (fun _ => True) :=
  wc_op op_lt ha (fun _ _ => hb) fun x y ⟨i, ex, _⟩ ey => by
    subst ex ey
    exact r2_cI trivial
theorem wc_eqN {Ra : Int → Prop} (ha : WE X B h a ss fun d => ∃ i, d = .int i ∧ Ra i) (hb : DE X B h b ss (.int j)) : WC X B h .Eq a b ss (fun _ => True) :=
  wc_op op_eq ha (fun _ _ => hb) fun x y ⟨i, ex, _⟩ ey => by
    subst ex ey
    intro H vx vy Q _ dx dy k
    cases dx
    cases dy
    exact ⟨rfl, k _ trivial⟩
end
def one1 (F G : Addr) : Sl → Prop := fun x => ∀ F' G', x = .f F' G' → F' = F ∧ G' = G
theorem of_one {F G : Addr} {ss : List Sl} (h : ∀ x ∈ ss, x = .f F G ∨ ∀ F' G', x ≠ .f F' G') : oneF F G ss := fun x hx F' G' e => by
  rcases h x hx with z | z
  · rw [z] at e; cases e; exact ⟨rfl, rfl⟩
  · exact absurd e (z F' G')
theorem one_cons {F G : Addr} {ss : List Sl} {x : Sl} (h : ∀ F' G', x ≠ .f F' G') (t : oneF F G ss) : oneF F G (x :: ss) := fun y hy F' G' e => by
  rcases List.mem_cons.mp hy with z | z
  · rw [z] at e; exact absurd e (h F' G')
  · exact t y z F' G' e
theorem one_nil {F G : Addr} : oneF F G [] := fun y hy => nomatch hy
theorem one_f {F G : Addr} {ss : List Sl} (t : oneF F G ss) : oneF F G (.f F G :: ss) := fun y hy F' G' e => by
  rcases List.mem_cons.mp hy with z | z
  · rw [z] at e; cases e; exact ⟨rfl, rfl⟩
  · exact t y z F' G' e
def pmPick : List PyData → (PyData → Prop) → Prop := fun ds R => ∃ es, ds = [.list es] ∧ es ≠ [] ∧ es.length ≤ 1000 ∧ ∀ d ∈ es, R d
def pmMix : List PyData → (PyData → Prop) → Prop := fun ds R => ∃ ks, ds = [lTs ks] ∧ ks.length ≤ 500 ∧ ∀ ls : List (List Int), ls.Perm ks → R (lTs ls)
section
variable {P : Program} {w : World} {K : PySem.W.Frag} {mg : Str → Option Value} {base : Heap} {f : Addr} {fd : FuncData}
theorem sc34 : FnScope ["_law_fount_here", "_law_row", "_law_spot"] ["_law_fount_here", "_law_row"] (defScope (top 34)) := ⟨rfl, rfl, rfl, by decide +kernel, rfl, by decide +kernel, by decide +kernel⟩
theorem ok34 (F : Fun K "_law_pick" "_law_pick" (top 34) f fd) (bm : Bi mg) (c33 : Cl false P w K mg base 1 "_law_draw" (spI pmDraw)) : FnV false P w K mg base CX0 2 f fd ["_law_fount_here", "_law_row"] (spI pmPick) := by
  refine fnI F sc34 (fun ds R ⟨_, e, _⟩ => by rw [e]; rfl) (by decide) fun X H h F G ds R hX ⟨es, ed, ne, hz, hR⟩ => ?_
  obtain ⟨f, cdv, A, outer, s, H0, E, rfl, hr, gd⟩ := hX
  subst ed
  have hN := sc34.nd
  have lp : 0 < es.length := Nat.pos_of_ne_zero fun z => ne (List.length_eq_zero_iff.mp z)
  refine wss_cons (N1 := fun s => ∃ i : Nat, i < es.length ∧ s = [.f F G, .d (.list es), .d (.int (i : Int))]) (ws_set 2 (Re := fun d => ∃ i : Nat, i < es.length ∧ d = .int (i : Int)) (we_callI 0 c33 hr (by decide) rfl rfl (one_f (one_cons nofun (one_cons nofun one_nil))) (da_cons (de_len rfl (bm _ (by decide)) isq_l (de_var 1)) wa_nil) fun ds e => ⟨es.length, e, lp, by omega, fun i hi => ⟨i, hi, rfl⟩⟩) (fun d ⟨i, hi, e⟩ => ⟨i, hi, by rw [e]; rfl⟩) hN) fun s ⟨i, hi, e⟩ => ?_
  subst e
  exact wss_one (ws_ret (de_ix (n := i) isq_l (de_var 1) (de_var 2) rfl (List.getElem?_eq_getElem hi)) fun d e => ⟨rfl, by rw [e]; exact hR _ (List.getElem_mem hi)⟩)
theorem sc35 : FnScope ["_law_fount_here", "_law_row", "_law_left", "_law_found", "_law_turn", "_law_spot"] ["_law_fount_here", "_law_row"] (defScope (top 35)) := ⟨rfl, rfl, rfl, by decide +kernel, rfl, by decide +kernel, by decide +kernel⟩
theorem ok35 (F : Fun K "_law_mixed" "_law_mixed" (top 35) f fd) (bm : Bi mg) (c33 : Cl false P w K mg base 1 "_law_draw" (spI pmDraw)) : FnV false P w K mg base CX0 2 f fd ["_law_fount_here", "_law_row"] (spI pmMix) := by
  refine fnI F sc35 (fun ds R ⟨_, e, _⟩ => by rw [e]; rfl) (by decide) fun X H h F G ds R hX ⟨ks, ed, hz, hR⟩ => ?_
  obtain ⟨f, cdv, A, outer, s, H0, E, rfl, hr, gd⟩ := hX
  subst ed
  have hN := sc35.nd
  refine wss_cons (N1 := fun s => ∃ p q, s = [.f F G, .d (lTs ks), .l p (ks.map tI), .l q [], .u, .u]) ?_ fun s ⟨p, q, e⟩ => ?_
  · exact ws_parFF 2 3 (Ra := fun x => x = ks.map tI) (Rb := fun x => x = []) rfl hN (wf_list rfl (bm _ (by decide)) ((de_var 1).imp fun d e => ⟨ks.map tI, by rw [e]; exact isq_l, rfl⟩)) wf_nil (fun ds e => by rw [e]; exact nlAll_map nl_tI ks) (fun ds e => by rw [e]; rfl) fun p q ds es e1 e2 => ⟨p, q, by rw [e1, e2]; rfl⟩
  subst e
  refine wss_cons (N1 := fun s => ∃ (x : Sl) (fs : List (List Int)), fs.Perm ks ∧ s = [.f F G, x, .l p [], .l q (fs.map tI), .u, .u]) (ws_forRN (mm := ks.length) (lo := 0) 4 [4, 5] (fun i s => ∃ (x : Sl) (ls fs : List (List Int)), (x = .u ∨ x = .d (lTs ks)) ∧ (ls ++ fs).Perm ks ∧ ls.length + i = ks.length ∧ s = [.f F G, x, .l p (ls.map tI), .l q (fs.map tI), .u, .u]) PassesOwn.never rfl (wr1 _ rfl (bm _ (by decide)) (de_len rfl (bm _ (by decide)) isq_l (de_var 1)) (by rw [List.length_map]) (by omega)) (pg_name hN rfl (Or.inl rfl))
    ⟨_, ks, [], .inr rfl, by rw [List.append_nil], rfl, rfl⟩ (fun i s hi ⟨x, ls, fs, hx, pm, ll, e⟩ => ?_) fun s ⟨x, ls, fs, hx, pm, ll, e⟩ => ?_) fun s ⟨x, fs, pm, e⟩ => ?_
  · subst e
    refine wss_weak (ss' := [.f F G, .u, .l p (ls.map tI), .l q (fs.map tI), .d (.int (0 + (i : Nat))), .u]) rfl (fun k y hk => ?_) ?_
    · match k, hk with
      | 0, hk => exact .inr hk
      | 1, hk => exact .inl (Option.some.inj hk).symm
      | 2, hk => exact .inr hk
      | 3, hk => exact .inr hk
      | 4, hk => exact .inr hk
      | 5, hk => exact .inr hk
      | k + 6, hk => simp at hk
    have lp : 0 < ls.length := by omega
    have lf : ls.length + fs.length = ks.length := by have := pm.length_eq; rwa [List.length_append] at this
    refine wss_cons (N1 := fun s => ∃ k : Nat, k < ls.length ∧ s = [.f F G, .u, .l p (ls.map tI), .l q (fs.map tI), .d (.int (0 + (i : Nat))), .d (.int (k : Int))]) (ws_set 5 (Re := fun d => ∃ k : Nat, k < ls.length ∧ d = .int (k : Int)) (we_callI 0 c33 hr (by decide) rfl rfl (one_f (one_cons nofun (one_cons nofun (one_cons nofun (one_cons nofun (one_cons nofun one_nil)))))) (da_cons (de_len rfl (bm _ (by decide)) isq_l (de_varL 2)) wa_nil) fun ds e => ⟨ls.length, by rw [e, List.length_map], lp, by omega, fun i hi => ⟨i, hi, rfl⟩⟩) (fun d ⟨k, hk, e⟩ => ⟨k, hk, by rw [e]; rfl⟩) hN) fun s ⟨k, hk, e⟩ => ?_
    subst e
    refine wss_one (ws_appendPop 3 2 (q := q) (r := p) (ds := fs.map tI) (es := ls.map tI) rfl rfl (nls_of fun x hx d e => ?_) ((de_var 5).imp fun d e => ⟨k, e, by rw [List.length_map]; exact hk, fun y hy => ?_⟩) (by rw [List.length_map]; omega) (by rw [List.length_map]; omega))
    · subst e
      rcases List.mem_cons.mp hx with z | hx
      · cases z
      rcases List.mem_cons.mp hx with z | hx
      · cases z
      rcases List.mem_cons.mp hx with z | hx
      · cases z
      rcases List.mem_cons.mp hx with z | hx
      · cases z
      rcases List.mem_cons.mp hx with z | hx
      · cases z; rfl
      rcases List.mem_cons.mp hx with z | hx
      · cases z; rfl
      cases hx
    · obtain ⟨a, ha, rfl⟩ := map_get hy
      refine ⟨.u, ls.eraseIdx k, fs ++ [a], .inl rfl, ?_, ?_, ?_⟩
      · have p1 := perm_erase ha
        have : (ls.eraseIdx k ++ (fs ++ [a])).Perm (ls ++ fs) := by
          rw [← List.append_assoc]
          refine (List.perm_append_comm (l₁ := ls.eraseIdx k ++ fs) (l₂ := [a])).trans ?_
          show (a :: (ls.eraseIdx k ++ fs)).Perm _
          exact (List.Perm.append_right fs p1.symm)
        exact this.trans pm
      · rw [List.length_eraseIdx_of_lt hk]
        omega
      · rw [map_erase, List.map_append]
        rfl
  · have : ls = [] := List.length_eq_zero_iff.mp (by omega)
    subst this
    exact ⟨x, fs, pm, e⟩
  · subst e
    exact wss_one (ws_ret (de_varL 3) fun d e => ⟨rfl, by rw [e]; exact hR fs pm⟩)
end
end F26

/-! walks: masks, part, pair, arcs -/
namespace F26
open PySem PySem.Spec L2

def stA (s b m : Nat) : Nat := if m &&& s = s then m ||| b else m
def stB (s b m : Nat) : Nat := if m &&& s = s ∧ m ≠ s then m ||| b else m
inductive Rch : Nat → List Nat → Prop
  | nil : Rch 1 []
  | a {n : Nat} {ms : List Nat} {s : Nat} : Rch n ms → s ∈ ms → Rch (n + 1) (ms.map (stA s (2 ^ n)))
  | b {n : Nat} {ms : List Nat} {s : Nat} : Rch n ms → (s ∈ ms ∨ ∃ k, k < n ∧ s = 2 ^ k) → Rch (n + 1) (ms.map (stB s (2 ^ n)) ++ [s ||| 2 ^ n])
theorem Rch.len {n : Nat} {ms : List Nat} (h : Rch n ms) : ms.length ≤ n := by
  induction h with
  | nil => exact Nat.zero_le _
  | a _ _ ih => rw [List.length_map]; omega
  | b _ _ ih => rw [List.length_append, List.length_map, List.length_singleton]; omega
def pmMasks : List PyData → (PyData → Prop) → Prop := fun ds R => ∃ (n : Nat) (l : Int), ds = [.int (n : Int), .int l] ∧ n ≤ 60 ∧ ∀ ms, Rch (max n 1) ms → R (lN ms)
theorem shp_lN {ms : List Nat} : SeqAt.shaped (lN ms) = true := shp_lI
theorem lN_ne {ms : List Nat} : lN ms = .list (ms.map iN) := lN_eq ms
theorem lN_map {g : Nat → Nat} {ms : List Nat} : lN (ms.map g) = .list (ms.map fun m => iN (g m)) := by
  rw [lN_eq, List.map_map]
  rfl
theorem pow_eq (k : Nat) : (1 : Int) * 2 ^ k = ((2 ^ k : Nat) : Int) := by rw [Int.one_mul]; exact (Int.natCast_pow 2 k).symm
section
variable {P : Program} {w : World} {K : PySem.W.Frag} {mg : Str → Option Value} {base : Heap} {f : Addr} {fd : FuncData}
theorem eA (m s b : Nat) : (if decide (Builtin.bitAnd (m : Int) (s : Int) = (s : Int)) = true then PyData.int (Builtin.bitOr (m : Int) (b : Int)) else PyData.int (m : Int)) = iN (stA s b m) := by
  unfold stA
  rw [and_nat, or_nat, show decide (((m &&& s : Nat) : Int) = (s : Int)) = decide (m &&& s = s) from decide_eq_decide.mpr Int.ofNat_inj]
  by_cases h : m &&& s = s <;> simp [h, iN]
theorem eB (m s b : Nat) : (if (decide (Builtin.bitAnd (m : Int) (s : Int) = (s : Int)) && !decide ((m : Int) = (s : Int))) = true then PyData.int (Builtin.bitOr (m : Int) (b : Int)) else PyData.int (m : Int)) = iN (stB s b m) := by
  unfold stB
  rw [and_nat, or_nat, show decide (((m &&& s : Nat) : Int) = (s : Int)) = decide (m &&& s = s) from decide_eq_decide.mpr Int.ofNat_inj, show decide ((m : Int) = (s : Int)) = decide (m = s) from decide_eq_decide.mpr Int.ofNat_inj]
  by_cases h : m &&& s = s <;> by_cases h2 : m = s <;> simp [h, h2, iN]
section
variable {X : Cx} {B : Bs} {h : List Addr} {ss : List Sl} {tg a b : Expr} {p pos : Pos}
theorem di_rngN {n : Int} (m : Nat) (hg : Gl X "range") (hm : X.mg "range" = none) (w : DE X B h a ss (.int n)) (e : n = (m : Int)) (hz : m ≤ 100000) (hs : starEach [a] X.env = [(false, eval a X.env)] := by rfl) : DI X B h tg (.Call (.Name "range" p) [a] [] pos) ss ((List.range m).map iN) := by
  have := di_rng (tg := tg) (p := p) (pos := pos) m hg hm w e hz hs
  unfold rangeI at this
  rw [List.map_map] at this
  exact this
end
theorem sc36 : FnScope ["_law_fount_here", "_law_wide", "_law_loose", "_law_found", "_law_last", "_law_new", "_law_spot", "_law_mask", "_law_k"] ["_law_fount_here", "_law_wide", "_law_loose"] (defScope (top 36)) := ⟨rfl, rfl, rfl, by decide +kernel, rfl, by decide +kernel, by decide +kernel⟩
theorem ok36 (F : Fun K "_law_masks" "_law_masks" (top 36) f fd) (bm : Bi mg) (c33 : Cl false P w K mg base 1 "_law_draw" (spI pmDraw)) (c34 : Cl false P w K mg base 2 "_law_pick" (spI pmPick)) : FnV false P w K mg base CX0 3 f fd ["_law_fount_here", "_law_wide", "_law_loose"] (spI pmMasks) := by
  refine fnI F sc36 (fun ds R ⟨_, _, e, _⟩ => by rw [e]; rfl) (by decide) fun X H h F G ds R hX ⟨n, l, ed, hn, hR⟩ => ?_
  obtain ⟨f, cdv, A, outer, s, H0, E, rfl, hr, gd⟩ := hX
  subst ed
  have hN := sc36.nd
  have one9 : ∀ {a b c d e f g h : Sl}, (∀ F' G', a ≠ .f F' G') → (∀ F' G', b ≠ .f F' G') → (∀ F' G', c ≠ .f F' G') → (∀ F' G', d ≠ .f F' G') → (∀ F' G', e ≠ .f F' G') → (∀ F' G', f ≠ .f F' G') → (∀ F' G', g ≠ .f F' G') → (∀ F' G', h ≠ .f F' G') → oneF F G [.f F G, a, b, c, d, e, f, g, h] := fun h1 h2 h3 h4 h5 h6 h7 h8 => one_f (one_cons h1 (one_cons h2 (one_cons h3 (one_cons h4 (one_cons h5 (one_cons h6 (one_cons h7 (one_cons h8 one_nil))))))))
  refine wss_cons (N1 := fun s => s = [.f F G, .d (.int (n : Int)), .d (.int l), .d (lN []), .u, .u, .u, .u, .u]) (ws_set 3 (de_lst wa_nil) (fun d e => by rw [e]; rfl) hN) fun s e => ?_
  subst e
  refine wss_cons (N1 := fun s => ∃ ms, Rch (max n 1) ms ∧ s = [.f F G, .d (.int (n : Int)), .d (.int l), .d (lN ms), .u, .u, .u, .u, .u]) (ws_forRN (mm := n - 1) (lo := 1) 4 [4, 5, 6] (fun i s => ∃ ms, Rch (i + 1) ms ∧ s = [.f F G, .d (.int (n : Int)), .d (.int l), .d (lN ms), .u, .u, .u, .u, .u]) PassesOwn.never rfl (wr2 _ rfl (bm _ (by decide)) de_int (de_var 1) (by omega) (by omega) (by omega) (by omega) (by omega)) (pg_name hN rfl (Or.inl rfl))
    ⟨[], .nil, rfl⟩ (fun i s hi ⟨ms, hm, e⟩ => ?_) fun s ⟨ms, hm, e⟩ => ⟨ms, by rw [show max n 1 = n - 1 + 1 by omega]; exact hm, e⟩) fun s ⟨ms, hm, e⟩ => ?_
  · subst e
    have lm := hm.len
    rw [show (1 : Int) + (i : Nat) = ((i + 1 : Nat) : Int) by omega]
    refine wss_cons (N1 := fun s => s = [.f F G, .d (.int (n : Int)), .d (.int l), .d (lN ms), .d (.int ((i + 1 : Nat) : Int)), .d (iN (2 ^ (i + 1))), .u, .u, .u]) (ws_set 5 (de_shl de_int (de_var 4) ⟨by omega, by omega, by decide⟩) (fun d e => by rw [e, Int.toNat_natCast, pow_eq]; rfl) hN) fun s e => ?_
    subst e
    refine wss_one (ws_if (S := fun b => b = true → ms ≠ []) (wt_w (ww_and (dt_c (dc_neNil hr shp_lN (de_var 3) (de_lst wa_nil))) (fun e => ww_and1 (WT.imp (wt_c (wc_ltN (Ra := fun _ => True) (we_callI 0 c33 hr (by decide) rfl rfl (one9 nofun nofun nofun nofun nofun nofun nofun nofun) (da_cons de_int wa_nil) fun ds e => ⟨4, e, by decide, by decide, fun i _ => ⟨_, rfl, trivial⟩⟩) (de_var 2))) fun b _ _ z => ?_)) fun _ z => by cases z)) (fun hne => ?_) fun _ => ?_)
    · rw [z] at e
      cases e
    · -- the kept number of parts
      have ne := hne rfl
      refine wss_cons (N1 := fun s => ∃ sp, sp ∈ ms ∧ s = [.f F G, .d (.int (n : Int)), .d (.int l), .d (lN ms), .d (.int ((i + 1 : Nat) : Int)), .d (iN (2 ^ (i + 1))), .d (iN sp), .u, .u]) (ws_set 6 (Re := fun d => ∃ sp, sp ∈ ms ∧ d = iN sp) (we_callI 0 c34 hr (by decide) rfl rfl (one9 nofun nofun nofun nofun nofun nofun nofun nofun) (da_cons (de_var 3) wa_nil) fun ds e => ⟨ms.map iN, by rw [e, lN_eq], fun z => ne (List.map_eq_nil_iff.mp z), by rw [List.length_map]; omega, fun d hd => by
        obtain ⟨m, hm, rfl⟩ := List.mem_map.mp hd
        exact ⟨m, hm, rfl⟩⟩) (fun d ⟨sp, h1, h2⟩ => ⟨sp, h1, by rw [h2]; rfl⟩) hN) fun s ⟨sp, hs, e⟩ => ?_
      subst e
      refine wss_one (ws_lcN (as := ms) (enc := iN) (out := fun m => iN (stA sp (2 ^ (i + 1)) m)) (p := fun _ => true) 3 7 rfl hN (di_list (WE.eq (de_var 3) (lN_eq ms))) (blkOk_by rfl) (fun a ha D s H C cl fp => rfl)
        (fun a ha _ D s H C cl fp => WE.eq (de_if (dt_c (dc_eqI (de_and (de_var 7) (de_var 6)) (de_var 6))) (fun _ => de_or (de_var 7) (de_var 5)) fun _ => de_var 7) (eA a sp (2 ^ (i + 1)))) (by omega) ⟨_, hm.a hs, ?_⟩)
      rw [filt_true, lN_map]
      rfl
    · refine wss_cons (N1 := fun s => ∃ sp, (sp ∈ ms ∨ ∃ k, k < i + 1 ∧ sp = 2 ^ k) ∧ s = [.f F G, .d (.int (n : Int)), .d (.int l), .d (lN ms), .d (.int ((i + 1 : Nat) : Int)), .d (iN (2 ^ (i + 1))), .d (iN sp), .u, .u]) (ws_set 6 (Re := fun d => ∃ sp, (sp ∈ ms ∨ ∃ k, k < i + 1 ∧ sp = 2 ^ k) ∧ d = iN sp) (we_callI 0 c34 hr (by decide) rfl rfl (one9 nofun nofun nofun nofun nofun nofun nofun nofun)
          (da_cons (de_catL (ds := (List.range (i + 1)).map fun k => iN (2 ^ k)) (es := ms.map iN) (de_lcM (as := List.range (i + 1)) (enc := iN) (out := fun k => iN (2 ^ k)) 8 rfl hN (di_rngN _ rfl (bm _ (by decide)) (de_var 4) rfl (by omega)) (blkOk_by rfl) (fun k hk D s H C cl fp => WE.eq (de_shl de_int (de_var 8) ⟨by omega, ?_, by decide⟩) ?_) (by rw [List.length_range]; omega)) (WE.eq (de_var 3) (lN_eq ms)) (by rw [List.length_map, List.length_map, List.length_range]; omega)) wa_nil)
          fun ds e => ⟨_, e, fun z => ?_, ?_, fun d hd => ?_⟩) (fun d ⟨sp, h1, h2⟩ => ⟨sp, h1, by rw [h2]; rfl⟩) hN) fun s ⟨sp, hs, e⟩ => ?_
      · have := List.mem_range.mp hk
        omega
      · rw [Int.toNat_natCast, pow_eq]
        rfl
      · have := congrArg List.length z
        rw [List.length_append, List.length_map, List.length_range] at this
        simp at this
      · rw [List.length_append, List.length_map, List.length_map, List.length_range]
        omega
      · rcases List.mem_append.mp hd with z | z
        · obtain ⟨k, hk, rfl⟩ := List.mem_map.mp z
          exact ⟨_, .inr ⟨k, List.mem_range.mp hk, rfl⟩, rfl⟩
        · obtain ⟨m, hm, rfl⟩ := List.mem_map.mp z
          exact ⟨m, .inl hm, rfl⟩
      · subst e
        refine wss_cons (N1 := fun s => ∃ L, s = [.f F G, .d (.int (n : Int)), .d (.int l), .l L ((ms.map (stB sp (2 ^ (i + 1)))).map iN), .d (.int ((i + 1 : Nat) : Int)), .d (iN (2 ^ (i + 1))), .d (iN sp), .u, .u]) (ws_lcO (as := ms) (enc := iN) (out := fun m => iN (stB sp (2 ^ (i + 1)) m)) (p := fun _ => true) 3 7 rfl hN (di_list (WE.eq (de_var 3) (lN_eq ms))) (blkOk_by rfl) (fun a ha D s H C cl fp => rfl)
          (fun a ha _ D s H C cl fp => WE.eq (de_if (dt_and (dt_c (dc_eqI (de_and (de_var 7) (de_var 6)) (de_var 6))) fun _ => dt_c (dc_neI (de_var 7) (de_var 6))) (fun _ => de_or (de_var 7) (de_var 5)) fun _ => de_var 7) (eB a sp (2 ^ (i + 1)))) (by omega) (fun a => rfl) fun L => ⟨L, ?_⟩) fun s ⟨L, e⟩ => ?_
        · rw [filt_true, List.map_map]
          rfl
        subst e
        refine wss_cons (N1 := fun s => s = [.f F G, .d (.int (n : Int)), .d (.int l), .l L ((ms.map (stB sp (2 ^ (i + 1)))).map iN ++ [iN (sp ||| 2 ^ (i + 1))]), .d (.int ((i + 1 : Nat) : Int)), .d (iN (2 ^ (i + 1))), .d (iN sp), .u, .u]) (ws_append 3 rfl (nls_of fun x hx d e => ?_) (WE.eq (de_or (de_var 6) (de_var 5)) (by rw [or_nat])) (fun d e => by rw [e]; rfl) (by rw [List.length_map, List.length_map]; omega) fun d e => by rw [e]; rfl) fun s e => ?_
        · subst e
          rcases List.mem_cons.mp hx with z | hx
          · cases z
          rcases List.mem_cons.mp hx with z | hx
          · cases z; rfl
          rcases List.mem_cons.mp hx with z | hx
          · cases z; rfl
          rcases List.mem_cons.mp hx with z | hx
          · cases z
          rcases List.mem_cons.mp hx with z | hx
          · cases z; rfl
          rcases List.mem_cons.mp hx with z | hx
          · cases z; rfl
          rcases List.mem_cons.mp hx with z | hx
          · cases z; rfl
          rcases List.mem_cons.mp hx with z | hx
          · cases z
          rcases List.mem_cons.mp hx with z | hx
          · cases z
          cases hx
        · subst e
          refine wss_loose 3 rfl (wss_nil ⟨_, hm.b hs, ?_⟩)
          rw [lN_eq, List.map_append]
          rfl
  · subst e
    exact wss_one (ws_ret (de_var 3) fun d e => ⟨rfl, by rw [e]; exact hR ms hm⟩)
end
end F26

/-! walks: part, pair, arcs, four lots of the law, gainsaid -/
namespace F26
open PySem PySem.Spec L2

section
variable {X : Cx} {B : Bs} {h : List Addr} {ss : List Sl} {elt iter : Expr} {ifs : List Expr} {scope : Scope} {pos tpos : Pos} {n : Str} {α : Type} {Pa : List α → Prop} {enc out : α → PyData} {p : α → Bool}
/-- a list made of one drawn -/
theorem we_lcF (j : Nat) (hc : X.calm = true) (hN : X.N.Nodup) (hi : WI X B h (.Name n tpos) iter ss (fun ds => ∃ as, Pa as ∧ ds = as.map enc)) (ok : BlkOk X.N X.env.scope scope [(n, j)])
    (tst : ∀ as, Pa as → ∀ a ∈ as, ∀ (D : Addr) (s : Shared) (H : Hp) (C : Addr) (cl : List (Str × Addr)) (fp : List Addr), WTs (Blk X scope s H C cl fp) B (D :: h) ifs (ss.set j (.d (enc a))) (fun b => b = p a))
    (el : ∀ as, Pa as → ∀ a ∈ as, p a = true → ∀ (D : Addr) (s : Shared) (H : Hp) (C : Addr) (cl : List (Str × Addr)) (fp : List Addr), DE (Blk X scope s H C cl fp) B (D :: h) elt (ss.set j (.d (enc a))) (out a))
    (hz : ∀ as, Pa as → as.length ≤ 1000) (nf : nofS ss [j] = true := by rfl) (hl : ifs.length ≤ 1 := by decide)
    (hg : ∀ (s : Shared) (H : Hp) (C : Addr) (cl : List (Str × Addr)) (fp : List Addr), PG (Blk X scope s H C cl fp) (.Name n tpos) (gName j) := by exact fun s H C cl fp => pg_name (by assumption) rfl (by first | exact Or.inl rfl | exact Or.inr rfl))
    (hs : ∀ x, foldedSetIterable iter X.env x = pure x := by intro _; rfl) :
    WE X B h (.ListComp elt [⟨.Name n tpos, iter, ifs, 0⟩] scope pos) ss (fun d => ∃ as, Pa as ∧ d = .list ((as.filter p).map out)) :=
  (we_lc (P := fun ds => ∃ as, Pa as ∧ ds = as.map enc) (T := tName j) (own := [(n, j)]) (fun ds i acc => ∃ as : List α, Pa as ∧ ds = as.map enc ∧ acc = accF as p out i) hc hN hi ok hg hl tg_name tk_name nf (fun ds ⟨as, pa, e⟩ => by rw [e, List.length_map]; exact hz as pa) (fun ds ⟨as, pa, e⟩ => ⟨as, pa, e, by unfold accF; simp⟩) (fun ds i d acc _ hd ⟨as, pa, ed, ia⟩ => by
    subst ed
    obtain ⟨a, ha, rfl⟩ := map_get hd
    refine ⟨⟨_, rfl⟩, fun ss' t => ?_⟩
    have t' : ss' = ss.set j (.d (enc a)) := by
      rw [show ss' = ((ss.set j .u).set j (.d (enc a))) from t, List.set_set]
    subst t' ia
    exact lct_of (tst as pa a (List.mem_of_getElem? ha)) (el as pa a (List.mem_of_getElem? ha)) (fun z => ⟨as, pa, rfl, (accF_no ha z).symm⟩) fun z => ⟨as, pa, rfl, (accF_yes ha z).symm⟩) hs).imp fun d ⟨ds, acc, _, e2, _, as, pa, ed, e3⟩ => ⟨as, pa, by rw [e2, e3, ed, List.length_map, accF_all]⟩
end
def bitP (m k : Nat) : Bool := decide ((m / 2 ^ k) &&& 1 = 1)
def partOf (m : Nat) : List Int := ((List.range 9).filter (bitP m)).map Int.ofNat
def srtP (ms : List Nat) : List (List Int) := (ms.map partOf).mergeSort leR
def pmPart : List PyData → (PyData → Prop) → Prop := fun ds R => ∃ m : Nat, ds = [iN m] ∧ R (tI (partOf m))
def pmPair : List PyData → (PyData → Prop) → Prop := fun ds R => ∃ (n : Nat) (ms : List Nat), ds = [.int (n : Int), lN ms] ∧ ms.length ≤ 500 ∧ R (netT n (srtP ms))
def IsArcs (n : Nat) (as : List Nat) : Prop := ∃ ms, Rch (max (n - 1) 1) ms ∧ as = (ms.filter fun m => !decide (m = 2 ^ (n - 1) - 1)).map (2 * ·)
def pmArcs : List PyData → (PyData → Prop) → Prop := fun ds R => ∃ (n : Nat) (l : Int), ds = [.int (n : Int), .int l] ∧ 1 ≤ n ∧ n ≤ 60 ∧ ∀ as, IsArcs n as → R (lN as)
theorem partOf_len (m : Nat) : (partOf m).length ≤ 9 := by
  unfold partOf
  rw [List.length_map]
  exact Nat.le_trans (List.length_filter_le _ _) (by rw [List.length_range]; exact Nat.le_refl _)
theorem partOf_small (m : Nat) : small (partOf m) := fun x hx => by
  unfold partOf at hx
  obtain ⟨k, hk, rfl⟩ := List.mem_map.mp hx
  have := List.mem_range.mp (List.mem_filter.mp hk).1
  show (0 : Int) ≤ (k : Int) ∧ (k : Int) < 64
  omega
theorem partOf_r (m : Nat) : ∀ x ∈ partOf m, 0 ≤ x ∧ x < 9 := fun x hx => by
  unfold partOf at hx
  obtain ⟨k, hk, rfl⟩ := List.mem_map.mp hx
  have := List.mem_range.mp (List.mem_filter.mp hk).1
  show (0 : Int) ≤ (k : Int) ∧ (k : Int) < 9
  omega
section
variable {P : Program} {w : World} {K : PySem.W.Frag} {mg : Str → Option Value} {base : Heap} {f : Addr} {fd : FuncData}
theorem bit_eq (m k : Nat) : decide (Builtin.bitAnd ((m : Int) / 2 ^ (k : Int).toNat) 1 = 1) = bitP m k := by
  unfold bitP
  rw [Int.toNat_natCast, show (m : Int) / 2 ^ k = ((m / 2 ^ k : Nat) : Int) by rw [Int.natCast_ediv, Int.natCast_pow]; rfl]
  rw [show (1 : Int) = ((1 : Nat) : Int) from rfl, and_nat]
  exact decide_eq_decide.mpr Int.ofNat_inj
theorem sc37 : FnScope ["_law_mask", "_law_k"] ["_law_mask"] (defScope (top 37)) := ⟨rfl, rfl, rfl, by decide +kernel, rfl, by decide +kernel, by decide +kernel⟩
theorem ok37 (F : Fun K "_law_part" "_law_part" (top 37) f fd) (bm : Bi mg) : FnV false P w K mg base CX0 1 f fd ["_law_mask"] (spP pmPart) := by
  refine fnG F sc37 (fun ds R ⟨_, e, _⟩ => by rw [e]; rfl) (by decide) fun X H h ds R hX ⟨m, ed, hR⟩ => ?_
  obtain ⟨f, cdv, A, outer, s, H0, E, rfl, hr, gd⟩ := hX
  subst ed
  have hN := sc37.nd
  refine wss_one (ws_ret (we_tuple (R := R) rfl (bm _ (by decide)) (WE.of (de_lcF (as := List.range 9) (enc := iN) (out := iN) (p := bitP m) 1 rfl hN (di_rngN 9 rfl (bm _ (by decide)) de_int rfl (by decide)) (blkOk_by rfl) (fun k hk D s H C cl fp => WT.eq (dt_c (dc_eqI (de_and (de_shr (de_var 0) (de_var 1) (by omega)) de_int) de_int)) (bit_eq m k)) (fun k hk _ D s H C cl fp => de_var 1) (by rw [List.length_range]; decide)) ⟨_, .inl rfl, ?_⟩)) fun d r => r)
  unfold partOf tI at hR
  rw [List.map_map] at hR
  exact hR
theorem sc39 : FnScope ["_law_wide", "_law_masks_here", "_law_mask"] ["_law_wide", "_law_masks_here"] (defScope (top 39)) := ⟨rfl, rfl, rfl, by decide +kernel, rfl, by decide +kernel, by decide +kernel⟩
theorem ok39 (F : Fun K "_law_pair" "_law_pair" (top 39) f fd) (bm : Bi mg) (c37 : Cl false P w K mg base 1 "_law_part" (spP pmPart)) {fk : Addr} (kc : KeyCl P w K mg base "_law_rank" fk) : FnV false P w K mg base CX0 4 f fd ["_law_wide", "_law_masks_here"] (spP pmPair) := by
  refine fnG F sc39 (fun ds R ⟨_, _, e, _⟩ => by rw [e]; rfl) (by decide) fun X H h ds R hX ⟨n, ms, ed, hz, hR⟩ => ?_
  obtain ⟨f, cdv, A, outer, s, H0, E, rfl, hr, gd⟩ := hX
  subst ed
  have hN := sc39.nd
  refine wss_one (ws_ret (de_tup (da_cons (de_var 0) (da_cons (we_tuple (R := fun x => x = tTs (srtP ms)) rfl (bm _ (by decide)) (de_sortK kc hr rfl (bm _ (by decide)) rfl (WE.of (de_lcM (as := ms) (enc := iN) (out := fun m => tI (partOf m)) 2 rfl hN (di_list (WE.eq (de_var 1) (lN_eq ms))) (blkOk_by rfl) (fun m hm D s H C cl fp => we_call c37 hr (by decide) rfl (da_cons (de_var 2) wa_nil) fun ds e => ⟨m, e, rfl⟩) (by omega)) ⟨ms.map partOf, ?_, by rw [List.length_map]; omega, fun k hk => ?_, _, .inl rfl, rfl⟩))) wa_nil))) fun d e => by rw [e]; exact hR)
  · unfold lTs
    rw [List.map_map]
    rfl
  · obtain ⟨m, _, rfl⟩ := List.mem_map.mp hk
    have := partOf_len m
    omega
theorem sc40 : FnScope ["_law_fount_here", "_law_wide", "_law_loose", "_law_mask"] ["_law_fount_here", "_law_wide", "_law_loose"] (defScope (top 40)) := ⟨rfl, rfl, rfl, by decide +kernel, rfl, by decide +kernel, by decide +kernel⟩
theorem pow_sub (n : Nat) (m : Nat) : decide ((m : Int) = 1 * 2 ^ n - 1) = decide (m = 2 ^ n - 1) := by
  rw [pow_eq]
  have : 0 < 2 ^ n := Nat.two_pow_pos n
  exact decide_eq_decide.mpr ⟨fun z => by omega, fun z => by omega⟩
theorem ok40 (F : Fun K "_law_arcs" "_law_arcs" (top 40) f fd) (c36 : Cl false P w K mg base 3 "_law_masks" (spI pmMasks)) : FnV false P w K mg base CX0 4 f fd ["_law_fount_here", "_law_wide", "_law_loose"] (spI pmArcs) := by
  refine fnI F sc40 (fun ds R ⟨_, _, e, _⟩ => by rw [e]; rfl) (by decide) fun X H h F G ds R hX ⟨n, l, ed, n1, hn, hR⟩ => ?_
  obtain ⟨f, cdv, A, outer, s, H0, E, rfl, hr, gd⟩ := hX
  subst ed
  have hN := sc40.nd
  refine wss_one (ws_ret (we_lcF (Pa := fun ms => Rch (max (n - 1) 1) ms) (enc := iN) (out := fun m => iN (2 * m)) (p := fun m => !decide (m = 2 ^ (n - 1) - 1)) 3 rfl hN (wi_list (we_callI 0 c36 hr (by decide) rfl rfl (one_f (one_cons nofun (one_cons nofun (one_cons nofun one_nil)))) (da_cons (de_sub (de_var 1) de_int) (da_cons (de_var 2) wa_nil)) fun ds e => ⟨n - 1, l, by rw [e, show ((n - 1 : Nat) : Int) = (n : Int) - 1 by omega], by omega, fun ms hm => ⟨_, lN_eq ms, ms, hm, rfl⟩⟩)) (blkOk_by rfl)
    (fun ms hm m _ D s H C cl fp => WT.eq (dt_c (dc_neI (de_var 3) (de_sub (de_shl de_int (de_sub (de_var 1) de_int) ⟨by omega, by omega, by decide⟩) de_int))) ?_) (fun ms hm m _ _ D s H C cl fp => WE.eq (de_mul de_int (de_var 3) (.inl ⟨by decide, by decide⟩)) ?_) (fun ms hm => by have := hm.len; omega)) fun d ⟨ms, hm, e⟩ => ⟨rfl, ?_⟩)
  · rw [show ((n : Int) - 1).toNat = n - 1 by omega, pow_sub]
  · unfold iN
    rw [Int.natCast_mul]
    rfl
  · rw [e]
    have := hR _ ⟨ms, hm, rfl⟩
    rw [lN_map] at this
    exact this
end
end F26

/-! walks: the law's four lots, first pair, gainsaid -/
namespace F26
open PySem PySem.Spec L2

section
variable {X : Cx} {B : Bs} {h : List Addr} {ss : List Sl} {elt iter : Expr} {ifs : List Expr} {scope : Scope} {pos tpos p1 p2 : Pos} {n m : Str} {kk : Nat} {α : Type} {as : List α} {enc : α → PyData} {out : Nat → PyData} {p : Nat → Bool}
/-- [elt for n, m in enumerate(xs) if ..] -/
theorem de_lcP (j l : Nat) (hjl : j ≠ l) (hc : X.calm = true) (hN : X.N.Nodup) (hi : DI X B h (.Tuple [.Name n p1, .Name m p2] kk tpos) iter ss (enumD (as.map enc))) (ok : BlkOk X.N X.env.scope scope [(n, j), (m, l)])
    (tst : ∀ i a, as[i]? = some a → ∀ (D : Addr) (s : Shared) (H : Hp) (C : Addr) (cl : List (Str × Addr)) (fp : List Addr), WTs (Blk X scope s H C cl fp) B (D :: h) ifs ((ss.set j (.d (.int (i : Nat)))).set l (.d (enc a))) (fun b => b = p i))
    (el : ∀ i a, as[i]? = some a → p i = true → ∀ (D : Addr) (s : Shared) (H : Hp) (C : Addr) (cl : List (Str × Addr)) (fp : List Addr), DE (Blk X scope s H C cl fp) B (D :: h) elt ((ss.set j (.d (.int (i : Nat)))).set l (.d (enc a))) (out i))
    (hz : as.length ≤ 1000) (nf : nofS ss [j, l] = true := by rfl) (hl : ifs.length ≤ 1 := by decide)
    (hg : ∀ (s : Shared) (H : Hp) (C : Addr) (cl : List (Str × Addr)) (fp : List Addr), PG (Blk X scope s H C cl fp) (.Tuple [.Name n p1, .Name m p2] kk tpos) (gTup X.K 2 (gCons (gName j) (gCons (gName l) gNil))) := by exact fun s H C cl fp => pg_tup rfl (pgs_cons (pg_name (by assumption) rfl (by first | exact Or.inl rfl | exact Or.inr rfl)) (pgs_cons (pg_name (by assumption) rfl (by first | exact Or.inl rfl | exact Or.inr rfl)) pgs_nil)))
    (hs : ∀ x, foldedSetIterable iter X.env x = pure x := by intro _; rfl) :
    DE X B h (.ListComp elt [⟨.Tuple [.Name n p1, .Name m p2] kk tpos, iter, ifs, 0⟩] scope pos) ss (.list (((List.range as.length).filter p).map out)) :=
  (we_lc (P := fun ds => ds = enumD (as.map enc)) (T := tPair j l) (own := [(n, j), (m, l)]) (fun ds i acc => acc = accF (List.range as.length) p out i) hc hN hi ok hg hl (tg_pair hjl) tk_pair nf (fun ds e => by rw [e, enumD_len, List.length_map]; exact hz) (fun ds _ => by unfold accF; simp) (fun ds i d acc pd hd ia => by
    subst pd
    obtain ⟨a, ha, rfl⟩ := enum_get hd
    refine ⟨⟨_, _, _, rfl, rfl⟩, fun ss' ⟨x, y, e, t⟩ => ?_⟩
    cases e
    have t' : ss' = (ss.set j (.d (.int (i : Nat)))).set l (.d (enc a)) := by
      rw [t]
      show ((((ss.set l .u).set j .u).set j _).set l _) = _
      rw [List.set_set, List.set_comm _ _ hjl.symm, List.set_set]
    have hr : (List.range as.length)[i]? = some i := by
      rw [List.getElem?_range (List.getElem?_eq_some_iff.mp ha).1]
    subst t' ia
    exact lct_of (tst i a ha) (el i a ha) (fun z => (accF_no hr z).symm) fun z => (accF_yes hr z).symm) hs).imp
    fun d ⟨ds, acc, e1, e2, _, e3⟩ => by
      have : accF (List.range as.length) p out as.length = ((List.range as.length).filter p).map out := by
        have := accF_all (as := List.range as.length) (p := p) (out := out)
        rw [List.length_range] at this
        exact this
      rw [e2, e3, e1, enumD_len, List.length_map, this]
end
/-! ### the law's lots -/
def gb (b c d : Nat) : List (List Int) := (List.range b).map fun a => lot4 a b c d
def gc (c d : Nat) (m : Nat) : List (List Int) := (List.range m).flatMap fun b => gb b c d
def gd' (d : Nat) (m : Nat) : List (List Int) := (List.range m).flatMap fun c => gc c d c
def gl (m : Nat) : List (List Int) := (List.range m).flatMap fun d => gd' d d
theorem gc_succ {c d m : Nat} : gc c d (m + 1) = gc c d m ++ gb m c d := by unfold gc; rw [List.range_succ, List.flatMap_append, List.flatMap_singleton]
theorem gd_succ {d m : Nat} : gd' d (m + 1) = gd' d m ++ gc m d m := by unfold gd'; rw [List.range_succ, List.flatMap_append, List.flatMap_singleton]
theorem gl_succ {m : Nat} : gl (m + 1) = gl m ++ gd' m m := by unfold gl; rw [List.range_succ, List.flatMap_append, List.flatMap_singleton]
theorem gl_len : ∀ m < 7, (gl m).length ≤ 15 := by decide +kernel
theorem gd_len : ∀ d < 7, ∀ m < 7, (gd' d m).length ≤ 100 := by decide +kernel
theorem gc_len {c d m : Nat} (h : m < 7) : (gc c d m).length ≤ 100 := by
  have : (gc c d m).length ≤ m * 7 := by
    unfold gc
    have : ∀ m, m < 7 → ((List.range m).flatMap fun b => gb b c d).length ≤ m * 7 := by
      intro m
      induction m with
      | zero => intro _; simp
      | succ m ih =>
        intro h
        have := ih (by omega)
        rw [List.range_succ, List.flatMap_append, List.flatMap_singleton, List.length_append, Nat.succ_mul]
        have : (gb m c d).length = m := by unfold gb; rw [List.length_map, List.length_range]
        omega
    exact this m h
  omega
def pmGL : List PyData → (PyData → Prop) → Prop := fun ds R => ∃ n : Nat, ds = [.int (n : Int)] ∧ n ≤ 6 ∧ R (lTs (gl n))
def sumP (k : List Int) : Int := (k.map fun x => 1 * 2 ^ x.toNat).sum
def pmFst : List PyData → (PyData → Prop) → Prop := fun ds R => ∃ ms, ds = [lN ms] ∧ ms.length ≤ 500 ∧ (∀ i j x y, FirstX ((srtP ms).map sumP) i j → (srtP ms)[i]? = some x → (srtP ms)[j]? = some y → R (.tuple [tI x, tI y])) ∧ (AllGo ((srtP ms).map sumP) → R .none)
def difW (hs gs : List (List Int)) (q : List Int) : Bool := match fourAt hs q, fourAt gs q with
  | some a, some b => !decide (a = b)
  | _, _ => false
def pmGs : List PyData → (PyData → Prop) → Prop := fun ds R => ∃ n hs gs, ds = [netT n hs, netT n gs] ∧ n ≤ 6 ∧ hs.length ≤ 500 ∧ gs.length ≤ 500 ∧
  (∀ q ∈ gl n, ∀ k, k ∈ hs ∨ k ∈ gs → (ins k q).length = 2 → (q.filter fun x => !decide (x ∈ ins k q)) ≠ []) ∧ R (lTs ((gl n).filter (difW hs gs)))
theorem gl4 : ∀ n < 7, ∀ q ∈ gl n, q.length = 4 := by decide +kernel
section
variable {P : Program} {w : World} {K : PySem.W.Frag} {mg : Str → Option Value} {base : Heap} {f : Addr} {fd : FuncData}
theorem sc41 : FnScope ["_law_wide", "_law_found", "_law_d", "_law_c", "_law_b", "_law_a"] ["_law_wide"] (defScope (top 41)) := ⟨rfl, rfl, rfl, by decide +kernel, rfl, by decide +kernel, by decide +kernel⟩
theorem ok41 (F : Fun K "_law_four_lots" "_law_four_lots" (top 41) f fd) (bm : Bi mg) : FnV false P w K mg base CX0 1 f fd ["_law_wide"] (spP pmGL) := by
  refine fnG F sc41 (fun ds R ⟨a, e, _⟩ => by rw [e]; rfl) (by decide) fun X H h ds R hX ⟨n, ed, hn, hR⟩ => ?_
  obtain ⟨f, cdv, A, outer, s, H0, E, rfl, hr, gd⟩ := hX
  subst ed
  have hN := sc41.nd
  refine wss_cons (N1 := fun s => s = [.d (.int (n : Int)), .d (lTs []), .u, .u, .u, .u]) (ws_set 1 (de_lst wa_nil) (fun d e => by rw [e]; rfl) hN) fun s e => ?_
  subst e
  refine wss_cons (N1 := fun s => s = [.d (.int (n : Int)), .d (lTs (gl n)), .u, .u, .u, .u]) (ws_forRN (mm := n) (lo := 0) 2 [2, 3, 4] (fun i s => s = [.d (.int (n : Int)), .d (lTs (gl i)), .u, .u, .u, .u]) PassesOwn.never rfl (wr1 _ rfl (bm _ (by decide)) (de_var 0) rfl (by omega)) (pg_name hN rfl (Or.inr rfl)) rfl (fun i s hi e => ?_) fun s e => e) fun s e => ?_
  · subst e
    rw [Int.zero_add]
    refine wss_one (ws_forRN (mm := i) (lo := 0) 3 [3, 4] (fun j s => s = [.d (.int (n : Int)), .d (lTs (gl i ++ gd' i j)), .d (.int (i : Nat)), .u, .u, .u]) PassesOwn.never rfl (wr1 _ rfl (bm _ (by decide)) (de_var 2) rfl (by omega)) (pg_name hN rfl (Or.inr rfl)) (by
      have : gd' i 0 = [] := rfl
      rw [this, List.append_nil]
      rfl) (fun j s hj e => ?_) fun s e => ?_)
    · subst e
      rw [Int.zero_add]
      refine wss_one (ws_forRN (mm := j) (lo := 0) 4 [4] (fun k s => s = [.d (.int (n : Int)), .d (lTs (gl i ++ gd' i j ++ gc j i k)), .d (.int (i : Nat)), .d (.int (j : Nat)), .u, .u]) PassesOwn.never rfl (wr1 _ rfl (bm _ (by decide)) (de_var 3) rfl (by omega)) (pg_name hN rfl (Or.inr rfl)) (by
        have : gc j i 0 = [] := rfl
        rw [this, List.append_nil]
        rfl) (fun k s hk e => ?_) fun s e => ?_)
      · subst e
        rw [Int.zero_add]
        have q1 := gl_len i (by omega)
        have q2 := gd_len i (by omega) j (by omega)
        have q3 := gc_len (c := j) (d := i) (m := k) (by omega)
        refine wss_one (ws_set 1 (de_catL (ds := (gl i ++ gd' i j ++ gc j i k).map tI) (es := (List.range k).map fun a => tI (lot4 a k j i)) (de_var 1) (de_lcM (as := List.range k) (enc := iN) (out := fun a => tI (lot4 a k j i)) 5 rfl hN (di_rngN k rfl (bm _ (by decide)) (de_var 4) rfl (by omega)) (blkOk_by rfl) (fun a ha D s H C cl fp => de_tup (da_cons (de_var 5) (da_cons (de_var 4) (da_cons (de_var 3) (da_cons (de_var 2) wa_nil)))) (by simp [lot4])) (by rw [List.length_range]; omega)) (by rw [List.length_map, List.length_append, List.length_append, List.length_map, List.length_range]; omega)) (fun d e => ?_) hN)
        have key : lTs (gl i ++ gd' i j ++ gc j i (k + 1)) = .list ((gl i ++ gd' i j ++ gc j i k).map tI ++ (List.range k).map fun a => tI (lot4 a k j i)) := by
          unfold lTs
          rw [gc_succ, ← List.append_assoc, List.map_append]
          unfold gb
          rw [List.map_map]
          rfl
        rw [e, key]
        rfl
      · subst e
        rw [gd_succ, List.append_assoc]
        rfl
    · subst e
      rw [gl_succ]
      rfl
  · subst e
    exact wss_one (ws_ret (de_var 1) fun d e => by rw [e]; exact hR)
theorem sc46 : FnScope ["_law_net", "_law_mate_here", "_law_found", "_law_four", "_law_one", "_law_two"] ["_law_net", "_law_mate_here"] (defScope (top 46)) := ⟨rfl, rfl, rfl, by decide +kernel, rfl, by decide +kernel, by decide +kernel⟩
theorem ok46 (F : Fun K "_law_gainsaid" "_law_gainsaid" (top 46) f fd) (c41 : Cl false P w K mg base 1 "_law_four_lots" (spP pmGL)) (c22 : Cl false P w K mg base 2 "four_at" (spP pmFA)) : FnV false P w K mg base CX0 3 f fd ["_law_net", "_law_mate_here"] (spP pmGs) := by
  refine fnG F sc46 (fun ds R ⟨_, _, _, e, _⟩ => by rw [e]; rfl) (by decide) fun X H h ds R hX ⟨n, hs, gs, ed, hn, hz, gz, hne, hR⟩ => ?_
  obtain ⟨f, cdv, A, outer, s, H0, E, rfl, hr, gd⟩ := hX
  subst ed
  have hN := sc46.nd
  have lg := gl_len n (by omega)
  refine wss_cons (N1 := fun s => ∃ L, s = [.d (netT n hs), .d (netT n gs), .l L [], .u, .u, .u]) (ws_setF 2 wf_nil (fun ds e => by rw [e]; rfl) (fun p ds e => ⟨p, by rw [e]; rfl⟩) hN) fun s ⟨L, e⟩ => ?_
  subst e
  have nls : ∀ {ds : List PyData} {x y z : Sl}, (∀ d, x = .d d → nl d = true) → (∀ d, y = .d d → nl d = true) → (∀ d, z = .d d → nl d = true) → nlS [.d (netT n hs), .d (netT n gs), .l L ds, x, y, z] 2 := fun hx hy hz => nls_of fun x' hx' d e => by
    subst e
    rcases List.mem_cons.mp hx' with z | hx'
    · cases z; exact nl_netT _ _
    rcases List.mem_cons.mp hx' with z | hx'
    · cases z; exact nl_netT _ _
    rcases List.mem_cons.mp hx' with z | hx'
    · cases z
    rcases List.mem_cons.mp hx' with z | hx'
    · exact hx d z.symm
    rcases List.mem_cons.mp hx' with z | hx'
    · exact hy d z.symm
    rcases List.mem_cons.mp hx' with z | hx'
    · exact hz d z.symm
    cases hx'
  have nlo : ∀ o, nl (optT o) = true := fun o => by cases o with | none => rfl | some k => exact nl_tI k
  refine wss_cons (N1 := fun s => s = [.d (netT n hs), .d (netT n gs), .l L (((gl n).filter (difW hs gs)).map tI), .u, .u, .u]) (ws_forL (P := fun ds => ds = (gl n).map tI) (T := tName 3) (vs := [3]) 2 (fun ds i s => s = [.d (netT n hs), .d (netT n gs), .l L (accF (gl n) (difW hs gs) tI i), .u, .u, .u]) PassesOwn.never rfl rfl (nls nofun nofun nofun) (di_list (we_call c41 hr (by decide) rfl (da_cons (de_ix (n := 0) isq_t (de_var 0) de_int rfl rfl) wa_nil) fun ds e => ⟨n, e, hn, rfl⟩)) (pg_name hN rfl (Or.inl rfl)) tg_name to_name
    (fun ds i s _ e => ⟨fun p ⟨k, es, hk⟩ => ?_, accF (gl n) (difW hs gs) tI i, by rw [e]; rfl⟩) (fun ds e => rfl) (fun ds i d s pd hd e => ?_) fun ds s pd e => ?_) fun s e => ?_
  · subst e
    match k, hk with
    | 0, hk => cases hk
    | 1, hk => cases hk
    | 2, hk => cases hk; rfl
    | 3, hk => cases hk
    | 4, hk => cases hk
    | 5, hk => cases hk
    | k + 6, hk => simp at hk
  · subst pd e
    obtain ⟨q, hq, rfl⟩ := map_get hd
    have mq := List.mem_of_getElem? hq
    refine ⟨⟨_, rfl⟩, fun s' t => ?_⟩
    rw [show s' = [.d (netT n hs), .d (netT n gs), .l L (accF (gl n) (difW hs gs) tI i), .d (tI q), .u, .u] from t]
    refine wss_wipe [3, 4, 5] ?_
    refine wss_cons (N1 := fun s => s = [.d (netT n hs), .d (netT n gs), .l L (accF (gl n) (difW hs gs) tI i), .d (tI q), .d (optT (fourAt hs q)), .d (optT (fourAt gs q))]) (ws_par 4 5 (Rs := fun z => z = [optT (fourAt hs q), optT (fourAt gs q)]) rfl hN (da_cons (we_call c22 hr (by decide) rfl (da_cons (de_var 0) (da_cons (de_var 3) wa_nil)) fun ds e => ⟨n, hs, q, e, gl4 n (by omega) q mq, hz, fun k hk => hne q mq k (.inl hk), rfl⟩) (da_cons (we_call c22 hr (by decide) rfl (da_cons (de_var 1) (da_cons (de_var 3) wa_nil)) fun ds e => ⟨n, gs, q, e, gl4 n (by omega) q mq, gz, fun k hk => hne q mq k (.inr hk), rfl⟩) wa_nil)) fun ds e => ⟨_, _, e, rfl⟩) fun s e => ?_
    subst e
    refine wss_one (ws_if (S := fun b => b = difW hs gs q) (WT.eq (dt_and3 (t := !isNon (optT (fourAt gs q))) (u := difW hs gs q) (dt_c (dc_notN (de_var 4))) (fun _ => dt_c (dc_notN (de_var 5))) fun e1 e2 => ?_) ?_) (fun e => ?_) fun e => wss_nil ?_)
    · rw [isN_optT, Bool.not_not] at e1 e2
      obtain ⟨a, ea⟩ := Option.isSome_iff_exists.mp e1
      obtain ⟨b, eb⟩ := Option.isSome_iff_exists.mp e2
      have ed : difW hs gs q = !decide (a = b) := by unfold difW; rw [ea, eb]
      rw [ed]
      exact dt_c (dc_neT hr (WE.eq (de_var 4) (by rw [ea]; rfl)) (WE.eq (de_var 5) (by rw [eb]; rfl)))
    · unfold difW
      cases fourAt hs q <;> cases fourAt gs q <;> rfl
    · refine wss_one (ws_append 2 rfl (nls (fun d e => by cases e; exact nl_tI q) (fun d e => by cases e; exact nlo _) (fun d e => by cases e; exact nlo _)) (de_var 3) (fun d e => by rw [e]; exact nl_tI q) ?_ fun d ed => ?_)
      · unfold accF
        rw [List.length_map]
        exact Nat.le_trans (List.length_filter_le _ _) (by rw [List.length_take]; omega)
      · rw [ed, accF_yes hq e.symm]
        rfl
    · rw [accF_no hq e.symm]
      rfl
  · rw [e, pd, List.length_map, accF_all]
  · subst e
    exact wss_one (ws_ret (de_varL 2) fun d e => by rw [e]; exact hR)
end
end F26

/-! walks: first pair, by pairs -/
namespace F26
open PySem PySem.Spec L2

section
variable {X : Cx} {B : Bs} {h : List Addr} {ss : List Sl} {elt iter : Expr} {ifs : List Expr} {scope : Scope} {pos tpos p1 p2 py spos : Pos} {n m y : Str} {kk : Nat} {α : Type} {as : List α} {enc : α → PyData} {out : Nat → PyData} {p : Nat → Bool} {N : List Sl → Prop} {R : List Sl → PyData → Prop}
theorem ws_lcP (i j l : Nat) (hjl : j ≠ l) (hc : X.calm = true) (hN : X.N.Nodup) (hi : DI X B h (.Tuple [.Name n p1, .Name m p2] kk tpos) iter ss (enumD (as.map enc))) (ok : BlkOk X.N X.env.scope scope [(n, j), (m, l)])
    (tst : ∀ i a, as[i]? = some a → ∀ (D : Addr) (s : Shared) (H : Hp) (C : Addr) (cl : List (Str × Addr)) (fp : List Addr), WTs (Blk X scope s H C cl fp) B (D :: h) ifs ((ss.set j (.d (.int (i : Nat)))).set l (.d (enc a))) (fun b => b = p i))
    (el : ∀ i a, as[i]? = some a → p i = true → ∀ (D : Addr) (s : Shared) (H : Hp) (C : Addr) (cl : List (Str × Addr)) (fp : List Addr), DE (Blk X scope s H C cl fp) B (D :: h) elt ((ss.set j (.d (.int (i : Nat)))).set l (.d (enc a))) (out i))
    (hz : as.length ≤ 1000) (k : N (ss.set i (.d (.list (((List.range as.length).filter p).map out))))) (nf : nofS ss [j, l] = true := by rfl) (hl : ifs.length ≤ 1 := by decide)
    (hy : X.N[i]? = some y := by rfl) (hyl : X.env.scope.names.lookup y = some .local := by rfl)
    (hsw : swapsWith (.ListComp elt [⟨.Tuple [.Name n p1, .Name m p2] kk tpos, iter, ifs, 0⟩] scope pos) (some (.Name y py)) spos.line X.env = pure true := by exact sw_true rfl rfl rfl (by decide +kernel))
    (hg : ∀ (s : Shared) (H : Hp) (C : Addr) (cl : List (Str × Addr)) (fp : List Addr), PG (Blk X scope s H C cl fp) (.Tuple [.Name n p1, .Name m p2] kk tpos) (gTup X.K 2 (gCons (gName j) (gCons (gName l) gNil))) := by exact fun s H C cl fp => pg_tup rfl (pgs_cons (pg_name (by assumption) rfl (by first | exact Or.inl rfl | exact Or.inr rfl)) (pgs_cons (pg_name (by assumption) rfl (by first | exact Or.inl rfl | exact Or.inr rfl)) pgs_nil)))
    (hs : ∀ x, foldedSetIterable iter X.env x = pure x := by intro _; rfl) :
    WS X B h (.Assign [.Name y py] (.ListComp elt [⟨.Tuple [.Name n p1, .Name m p2] kk tpos, iter, ifs, 0⟩] scope pos) spos) ss N R :=
  ws_setLc (P := fun ds => ds = enumD (as.map enc)) (T := tPair j l) (own := [(n, j), (m, l)]) i (fun ds i acc => acc = accF (List.range as.length) p out i) hc hN hi ok hg hl (tg_pair hjl) tk_pair nf (fun ds e => by rw [e, enumD_len, List.length_map]; exact hz) (fun ds _ => by unfold accF; simp) (fun ds i d acc pd hd ia => by
    subst pd
    obtain ⟨a, ha, rfl⟩ := enum_get hd
    refine ⟨⟨_, _, _, rfl, rfl⟩, fun ss' ⟨x, y, e, t⟩ => ?_⟩
    cases e
    have t' : ss' = (ss.set j (.d (.int (i : Nat)))).set l (.d (enc a)) := by
      rw [t]
      show ((((ss.set l .u).set j .u).set j _).set l _) = _
      rw [List.set_set, List.set_comm _ _ hjl.symm, List.set_set]
    have hr : (List.range as.length)[i]? = some i := by
      rw [List.getElem?_range (List.getElem?_eq_some_iff.mp ha).1]
    subst t' ia
    exact lct_of (tst i a ha) (el i a ha) (fun z => (accF_no hr z).symm) fun z => (accF_yes hr z).symm)
    (fun ds acc e1 _ e3 => by
      have : accF (List.range as.length) p out as.length = ((List.range as.length).filter p).map out := by
        have := accF_all (as := List.range as.length) (p := p) (out := out)
        rw [List.length_range] at this
        exact this
      rw [e3, e1, enumD_len, List.length_map, this]
      exact k) hy hyl hsw hs
end
theorem range_filter {p : Nat → Bool} {n j : Nat} {r : List Nat} (e : (List.range n).filter p = j :: r) : j < n ∧ p j = true ∧ ∀ k, k < j → p k = false := by
  obtain ⟨l1, l2, e1, e2, e3, _⟩ := List.filter_eq_cons_iff.mp e
  have hl : l1.length < n := by
    have := congrArg List.length e1
    rw [List.length_range, List.length_append, List.length_cons] at this
    omega
  have hj : j = l1.length := by
    have h1 : (List.range n)[l1.length]? = some l1.length := List.getElem?_range hl
    rw [e1, List.getElem?_append_right (Nat.le_refl _), Nat.sub_self] at h1
    simpa using h1
  refine ⟨by omega, e3, fun k hk => ?_⟩
  have h1 : (List.range n)[k]? = some k := List.getElem?_range (by omega)
  rw [e1, List.getElem?_append_left (by omega)] at h1
  cases q : p k with
  | false => rfl
  | true => exact absurd q (e2 k (List.mem_of_getElem? h1))
theorem range_filter_nil {p : Nat → Bool} {n : Nat} (e : (List.range n).filter p = []) : ∀ k, k < n → p k = false := fun k hk => by
  have := List.filter_eq_nil_iff.mp e k (List.mem_range.mpr hk)
  cases q : p k with
  | false => rfl
  | true => exact absurd q this
section
variable {P : Program} {w : World} {K : PySem.W.Frag} {mg : Str → Option Value} {base : Heap} {f : Addr} {fd : FuncData}
theorem sc44 : FnScope ["_law_arcs_here", "_law_some", "_law_k", "_law_masks_here", "_law_one", "_law_behind", "_law_mask", "_law_part_here", "_law_j", "_law_two"] ["_law_arcs_here"] (defScope (top 44)) := ⟨rfl, rfl, rfl, by decide +kernel, rfl, by decide +kernel, by decide +kernel⟩
theorem ok44 (F : Fun K "_law_first_pair" "_law_first_pair" (top 44) f fd) (bm : Bi mg) (c37 : Cl false P w K mg base 1 "_law_part" (spP pmPart)) (c43 : Cl false P w K mg base 1 "_law_goes" (spP pmGo)) {fk : Addr} (kc : KeyCl P w K mg base "_law_rank" fk) : FnV false P w K mg base CX0 4 f fd ["_law_arcs_here"] (spP pmFst) := by
  refine fnG F sc44 (fun ds R ⟨_, e, _⟩ => by rw [e]; rfl) (by decide) fun X H h ds R hX ⟨ms, ed, hz, hR, hR0⟩ => ?_
  obtain ⟨f, cdv, A, outer, s, H0, E, rfl, hr, gd⟩ := hX
  subst ed
  have hN := sc44.nd
  refine wss_cons (N1 := fun s => s = [.d (lN ms), .d (lTs (srtP ms)), .u, .u, .u, .u, .u, .u, .u, .u]) (ws_set 1 (Re := fun x => x = lTs (srtP ms)) (de_sortK kc hr rfl (bm _ (by decide)) rfl (WE.of (de_lcM (as := ms) (enc := iN) (out := fun m => tI (partOf m)) 6 rfl hN (di_list (WE.eq (de_var 0) (lN_eq ms))) (blkOk_by rfl) (fun m hm D s H C cl fp => we_call c37 hr (by decide) rfl (da_cons (de_var 6) wa_nil) fun ds e => ⟨m, e, rfl⟩) (by omega)) ⟨ms.map partOf, by unfold lTs; rw [List.map_map]; rfl, by rw [List.length_map]; omega, fun k hk => ?_, rfl⟩)) (fun d e => by rw [e]; rfl) hN) fun s e => ?_
  · obtain ⟨m, _, rfl⟩ := List.mem_map.mp hk
    have := partOf_len m
    omega
  subst e
  have ls : (srtP ms).length = ms.length := by unfold srtP; rw [List.length_mergeSort, List.length_map]
  have sm : ∀ k ∈ srtP ms, small k ∧ k.length ≤ 9 := fun k hk => by
    unfold srtP at hk
    rw [List.mem_mergeSort] at hk
    obtain ⟨m, _, rfl⟩ := List.mem_map.mp hk
    exact ⟨partOf_small m, partOf_len m⟩
  generalize hS : srtP ms = S at hR hR0 ls sm
  refine wss_cons (N1 := fun s => s = [.d (lN ms), .d (lTs S), .u, .d (lI (S.map sumP)), .u, .u, .u, .u, .u, .u]) (ws_lcN (as := S) (enc := tI) (out := fun k => .int (sumP k)) (p := fun _ => true) 3 7 rfl hN (di_list (de_var 1)) (blkOk_by rfl) (fun a ha D s H C cl fp => rfl)
    (fun k hk _ D s H C cl fp => de_sum (ns := k.map fun x : Int => (1 * 2 ^ x.toNat : Int)) rfl rfl (bm _ (by decide)) (WE.eq (de_lcM (as := k) (enc := .int) (out := fun x => .int (1 * 2 ^ x.toNat)) 2 rfl hN (di_tup (de_var 7)) (blkOk_by rfl) (fun x hx D s H C cl fp => de_shl de_int (de_var 2) (pow1 ((sm k hk).1 x hx))) (by have := (sm k hk).2; omega)) (by rw [List.map_map]; rfl))) (by omega) ?_) fun s e => ?_
  · rw [filt_true, lI, List.map_map]
    rfl
  subst e
  have lM : (S.map sumP).length = S.length := List.length_map _
  generalize eM : S.map sumP = M at hR hR0 lM
  have gM : ∀ {i : Nat}, i < M.length → ∃ k x, S[i]? = some k ∧ M[i]? = some x := fun {i} hi => ⟨S[i]'(by omega), M[i], List.getElem?_eq_getElem _, List.getElem?_eq_getElem _⟩
  refine wss_cons (N1 := fun _ => AllGo M) (ws_forP (as := M) (enc := .int) 2 4 [2, 4, 5] (fun i s => s = [.d (lN ms), .d (lTs S), .u, .d (lI M), .u, .u, .u, .u, .u, .u] ∧ NoneB M i 0) (by decide) PassesOwn.never rfl (di_enum rfl (bm _ (by decide)) (de_var 3)) (pg_tup rfl (pgs_cons (pg_name hN rfl (Or.inr rfl)) (pgs_cons (pg_name hN rfl (Or.inr rfl)) pgs_nil)))
    (fun i s e => by rw [e.1]; exact no_cons nofun (no_cons nofun (no_cons nofun (no_cons nofun (no_cons nofun (no_cons nofun (no_cons nofun (no_cons nofun (no_cons nofun (no_cons nofun no_nil)))))))))) ⟨rfl, fun a b x y z => by omega, fun b x y z1 z2 => by omega⟩ (fun i x s hx ⟨e, nb⟩ => ?_) fun s ⟨e, nb⟩ => fun a b x y z hx hy => nb.1 a b x y (List.getElem?_eq_some_iff.mp hx).1 z hx hy) fun s ag => wss_one (ws_ret de_non fun d e => by rw [e]; exact hR0 ag)
  subst e
  let pB : Nat → Bool := fun j => decide (i < j) && !goB x (M.getD j 0)
  refine wss_cons (N1 := fun s => s = [.d (lN ms), .d (lTs S), .d (.int (i : Nat)), .d (lI M), .d (.int x), .d (.list (((List.range M.length).filter pB).map iN)), .u, .u, .u, .u]) (ws_lcP (as := M) (enc := .int) (out := iN) (p := pB) 5 8 9 (by decide) rfl hN (di_enum rfl (bm _ (by decide)) (de_var 3)) (blkOk_by rfl)
    (fun j y hy D s H C cl fp => WT.eq (dt_and (dt_c (dc_gt (de_var 8) (de_var 2))) fun _ => dt_not (dt_val (we_call c43 hr (by decide) rfl (da_cons (de_var 4) (da_cons (de_var 9) wa_nil)) fun ds e => ⟨x, y, e, rfl⟩))) ?_) (fun j y hy _ D s H C cl fp => de_var 8) (by omega) rfl) fun s e => ?_
  · show (decide ((i : Int) < (j : Int)) && !goB x y) = (decide (i < j) && !goB x (M.getD j 0))
    have : M.getD j 0 = y := by rw [List.getD_eq_getElem?_getD, hy]; rfl
    rw [this, show decide ((i : Int) < (j : Int)) = decide (i < j) from decide_eq_decide.mpr Int.ofNat_lt]
  subst e
  have hsB : SeqAt.shaped (.list (((List.range M.length).filter pB).map iN)) = true := by
    have := shp_lN (ms := (List.range M.length).filter pB)
    rw [lN_eq] at this
    exact this
  refine wss_one (ws_if (dt_c (dc_neNil hr hsB (de_var 5) (de_lst wa_nil))) (fun e => ?_) fun e => wss_nil ⟨rfl, ?_⟩)
  · cases eB : (List.range M.length).filter pB with
    | nil => rw [eB] at e; cases e
    | cons j r =>
      obtain ⟨h1, h2, h3⟩ := range_filter eB
      have h4 : i < j ∧ goB x (M.getD j 0) = false := by
        have : (decide (i < j) && !goB x (M.getD j 0)) = true := h2
        rw [Bool.and_eq_true] at this
        exact ⟨of_decide_eq_true this.1, by simpa using this.2⟩
      obtain ⟨k1, _, hk1, _⟩ := gM (List.getElem?_eq_some_iff.mp hx).1
      obtain ⟨k2, y, hk2, hy⟩ := gM h1
      have gy : M.getD j 0 = y := by rw [List.getD_eq_getElem?_getD, hy]; rfl
      rw [gy] at h4
      have fx : FirstX M i j := ⟨⟨nb.1, fun b x' y' z1 z2 hx' hy' => ?_⟩, h4.1, x, y, hx, hy, h4.2⟩
      · refine wss_one (ws_ret (de_tup (da_cons (de_ix (n := i) isq_l (de_var 1) (de_var 2) rfl (mget hk1)) (da_cons (de_ix (n := j) isq_l (de_var 1) (de_ix (n := 0) (d := .int (j : Int)) isq_l (de_var 5) de_int rfl rfl) rfl (mget hk2)) wa_nil))) fun d e => ?_)
        rw [e]
        exact hR i j k1 k2 fx hk1 hk2
      · rw [hx] at hx'
        cases hx'
        have := h3 b z2
        have h5 : (decide (i < b) && !goB x (M.getD b 0)) = false := this
        rw [decide_eq_true z1, Bool.true_and, List.getD_eq_getElem?_getD, hy'] at h5
        simpa using h5
  · have en : (List.range M.length).filter pB = [] := by
      cases q : (List.range M.length).filter pB with
      | nil => rfl
      | cons j r => rw [q] at e; cases e
    have nn := range_filter_nil en
    refine ⟨fun a b x' y' z1 z2 hx' hy' => ?_, fun b x y z1 z2 => by omega⟩
    by_cases ha : a = i
    · subst ha
      rw [hx] at hx'
      cases hx'
      have h5 : (decide (a < b) && !goB x (M.getD b 0)) = false := nn b (List.getElem?_eq_some_iff.mp hy').1
      rw [decide_eq_true z2, Bool.true_and, List.getD_eq_getElem?_getD, hy'] at h5
      simpa using h5
    · exact nb.1 a b x' y' (by omega) z2 hx' hy'
end
end F26

/-! plain law: the orders -/
namespace F26
open PySem PySem.Spec L2

def toks : List Int → List (Int ⊕ List Nat)
  | [] => [.inl 0]
  | x :: r => .inl 1 :: .inl x :: toks r
theorem toks_eq : ∀ k : List Int, PySem.W.keyToksAll (k.map .int) = toks k
  | [] => by simp [PySem.W.keyToksAll, toks]
  | x :: r => by
    simp only [List.map_cons, PySem.W.keyToksAll, PySem.W.keyToks, toks, List.cons_append, List.nil_append, toks_eq r]
theorem toks_tI (k : List Int) : PySem.W.keyToks (tI k) = toks k := by
  unfold tI
  simp only [PySem.W.keyToks]
  exact toks_eq k
theorem toks_inj : ∀ {a b : List Int}, toks a = toks b → a = b
  | [], [], _ => rfl
  | [], y :: b, e => by
    simp only [toks, List.cons.injEq, Sum.inl.injEq] at e
    exact absurd e.1 (by decide)
  | x :: a, [], e => by
    simp only [toks, List.cons.injEq, Sum.inl.injEq] at e
    exact absurd e.1 (by decide)
  | x :: a, y :: b, e => by
    simp only [toks, List.cons.injEq, Sum.inl.injEq, true_and] at e
    rw [e.1, toks_inj e.2]
theorem rank_inj {a b : List Int} (e : PySem.W.keyToks (rankD a) = PySem.W.keyToks (rankD b)) : a = b := by
  unfold rankD at e
  simp only [PySem.W.keyToks, PySem.W.keyToksAll, toks_tI, List.cons_append, List.nil_append, List.cons.injEq, Sum.inl.injEq, true_and] at e
  exact toks_inj (List.append_cancel_right e.2)
/-- a total order -/
structure Ord {α : Type} (le : α → α → Bool) : Prop where
  tr : ∀ a b c, le a b = true → le b c = true → le a c = true
  to : ∀ a b, (le a b || le b a) = true
  an : ∀ a b, le a b = true → le b a = true → a = b
theorem ord_of {α : Type} {k : α → PyData} (inj : ∀ a b, PySem.W.keyToks (k a) = PySem.W.keyToks (k b) → a = b) : Ord (PySem.W.dataLe false k) where
  tr := fun a b c => (PySem.W.sortLe_total _ _ _).trans a b c
  to := fun a b => by
    rcases (PySem.W.sortLe_total (PyProof.Rows.listOrd PyProof.Rows.itemOrd) false (fun b => PySem.W.keyToks (k b))).total a b with h | h
    · show (PySem.W.sortLe _ _ _ a b || _) = true
      rw [h]; rfl
    · show (_ || PySem.W.sortLe _ _ _ b a) = true
      rw [h, Bool.or_true]
  an := fun a b h1 h2 => by
    have e1 : (!PyProof.Rows.lexLt PyProof.Rows.itemOrd (PySem.W.keyToks (k b)) (PySem.W.keyToks (k a))) = true := h1
    have e2 : (!PyProof.Rows.lexLt PyProof.Rows.itemOrd (PySem.W.keyToks (k a)) (PySem.W.keyToks (k b))) = true := h2
    rw [Bool.not_eq_true'] at e1 e2
    exact inj a b ((PyProof.Rows.listOrd PyProof.Rows.itemOrd).total _ _ e2 e1)
theorem ordT : Ord leT := ord_of fun a b e => by rw [toks_tI, toks_tI] at e; exact toks_inj e
theorem ordR : Ord leR := ord_of fun a b e => rank_inj e
theorem ordI : Ord leI := ⟨fun a b c h1 h2 => by unfold leI at *; have := of_decide_eq_true h1; have := of_decide_eq_true h2; exact decide_eq_true (by omega), fun a b => by unfold leI; rcases Int.le_total a b with h | h <;> simp [h], fun a b h1 h2 => by unfold leI at *; have := of_decide_eq_true h1; have := of_decide_eq_true h2; omega⟩
section
variable {α : Type} {le : α → α → Bool} (o : Ord le)
theorem Ord.srt (o : Ord le) (l : List α) : (l.mergeSort le).Pairwise (fun a b => le a b = true) := List.pairwise_mergeSort o.tr o.to l
/-- two sorted lists of the same items -/
theorem Ord.uniq (o : Ord le) {l m : List α} (h1 : l.Pairwise (fun a b => le a b = true)) (h2 : m.Pairwise (fun a b => le a b = true)) (p : l.Perm m) : l = m :=
  List.Perm.eq_of_pairwise (fun a b _ _ => o.an a b) h1 h2 p
theorem Ord.sort_perm (o : Ord le) {l m : List α} (p : l.Perm m) : l.mergeSort le = m.mergeSort le :=
  o.uniq (o.srt l) (o.srt m) (((List.mergeSort_perm l le).trans p).trans (List.mergeSort_perm m le).symm)
end
/-! insertion, to compute with -/
def insI (x : Int) : List Int → List Int
  | [] => [x]
  | y :: r => if x ≤ y then x :: y :: r else y :: insI x r
def isrt : List Int → List Int
  | [] => []
  | x :: r => insI x (isrt r)
theorem insI_perm (x : Int) : ∀ l, (insI x l).Perm (x :: l)
  | [] => .refl _
  | y :: r => by
    unfold insI
    split
    · exact .refl _
    · exact ((insI_perm x r).cons y).trans (.swap x y r)
theorem isrt_perm : ∀ l, (isrt l).Perm l
  | [] => .refl _
  | x :: r => (insI_perm x _).trans ((isrt_perm r).cons x)
theorem insI_srt (x : Int) : ∀ {l : List Int}, l.Pairwise (fun a b => leI a b = true) → (insI x l).Pairwise (fun a b => leI a b = true)
  | [], _ => List.pairwise_singleton _ _
  | y :: r, h => by
    unfold insI
    obtain ⟨h1, h2⟩ := List.pairwise_cons.mp h
    split
    · rename_i hx
      refine List.pairwise_cons.mpr ⟨fun z hz => ?_, h⟩
      rcases List.mem_cons.mp hz with e | e
      · rw [e]; exact decide_eq_true hx
      · have := of_decide_eq_true (h1 z e)
        exact decide_eq_true (by omega)
    · rename_i hx
      refine List.pairwise_cons.mpr ⟨fun z hz => ?_, insI_srt x h2⟩
      rcases List.mem_cons.mp ((insI_perm x r).mem_iff.mp hz) with e | e
      · rw [e]; exact decide_eq_true (by omega)
      · exact h1 z e
theorem isrt_srt : ∀ l, (isrt l).Pairwise (fun a b => leI a b = true)
  | [] => .nil
  | x :: r => insI_srt x (isrt_srt r)
theorem msI (l : List Int) : l.mergeSort leI = isrt l := ordI.uniq (ordI.srt l) (isrt_srt l) ((List.mergeSort_perm l leI).trans (isrt_perm l).symm)
/-! the code of words and their order -/
abbrev ltK (a b : List Int) : Bool := PyProof.Rows.lexLt PyProof.Rows.itemOrd (toks a) (toks b)
theorem ltK_nil : ltK [] [] = false := rfl
theorem ltK_cons (x y : Int) (a b : List Int) : ltK (x :: a) (y :: b) = (decide (x < y) || (!decide (y < x) && ltK a b)) := by
  show PyProof.Rows.lexLt PyProof.Rows.itemOrd (.inl 1 :: .inl x :: toks a) (.inl 1 :: .inl y :: toks b) = _
  rw [PyProof.Rows.lex_cons, PyProof.Rows.lex_cons]
  have : PyProof.Rows.itemOrd.blt (Sum.inl 1) (Sum.inl 1) = false := by decide
  rw [this]
  rfl
theorem code_rng : ∀ {a : List Int}, TS.Bd 64 a → 0 ≤ TS.code 64 a ∧ TS.code 64 a < 64 ^ a.length
  | [], _ => by simp [TS.code]
  | x :: a, ha => by
    obtain ⟨i2, i3⟩ := code_rng ha.tail
    obtain ⟨x0, x1⟩ := ha.head
    have hp : (0 : Int) < 64 ^ a.length := Int.pow_pos (by decide)
    have h1 : 0 ≤ x * 64 ^ a.length := Int.mul_nonneg x0 (by omega)
    have h2 : (x + 1) * 64 ^ a.length ≤ 64 * 64 ^ a.length := Int.mul_le_mul_of_nonneg_right (by omega) (by omega)
    rw [Int.add_mul] at h2
    simp only [TS.code, List.length_cons, Int.pow_succ]
    rw [Int.mul_comm (64 ^ a.length) 64]
    omega
theorem code_lt : ∀ {a b : List Int}, a.length = b.length → TS.Bd 64 a → TS.Bd 64 b → (ltK a b = true ↔ TS.code 64 a < TS.code 64 b)
  | [], [], _, _, _ => by
    rw [ltK_nil]
    simp [TS.code]
  | [], _ :: _, e, _, _ => by cases e
  | _ :: _, [], e, _, _ => by cases e
  | x :: a, y :: b, e, ha, hb => by
    have e' : a.length = b.length := by simpa using e
    have i1 := code_lt e' ha.tail hb.tail
    obtain ⟨i2, i3⟩ := code_rng ha.tail
    obtain ⟨j2, j3⟩ := code_rng hb.tail
    rw [← e'] at j3
    rw [ltK_cons]
    simp only [TS.code, ← e', Bool.or_eq_true, Bool.and_eq_true, decide_eq_true_eq, Bool.not_eq_true', decide_eq_false_iff_not, i1]
    generalize (64 : Int) ^ a.length = q at *
    rcases Int.lt_trichotomy x y with h | h | h
    · have : (x + 1) * q ≤ y * q := Int.mul_le_mul_of_nonneg_right (by omega) (by omega)
      rw [Int.add_mul] at this
      constructor
      · intro _; omega
      · intro _; exact .inl h
    · subst h
      constructor
      · rintro (z | ⟨_, z⟩) <;> omega
      · intro z; exact .inr ⟨by omega, by omega⟩
    · have : (y + 1) * q ≤ x * q := Int.mul_le_mul_of_nonneg_right (by omega) (by omega)
      rw [Int.add_mul] at this
      constructor
      · rintro (z | ⟨z, _⟩) <;> omega
      · intro z; omega
theorem leT_code {a b : List Int} (e : a.length = b.length) (ha : TS.Bd 64 a) (hb : TS.Bd 64 b) : TS.code 64 a ≤ TS.code 64 b → leT a b = true := fun h => by
  show (!PyProof.Rows.lexLt PyProof.Rows.itemOrd (PySem.W.keyToks (tI b)) (PySem.W.keyToks (tI a))) = true
  rw [toks_tI, toks_tI]
  show (!ltK b a) = true
  cases q : ltK b a with
  | false => rfl
  | true =>
    have := (code_lt e.symm hb ha).mp q
    omega
/-! the words doubled -/
def mates (S : List (List Int)) (w : List Int) : List (List Int) := S.filter fun t => !decide (t = w) && decide (srtI t = srtI w)
def dueOf (S T : List (List Int)) : Option (List Int × List Int) := match T with
  | [] => none
  | w :: r => match mates S w with
    | t :: _ => some (w, t)
    | [] => dueOf S r
theorem ddK_nodup (ks : List (List Int)) : (ddK ks).Nodup := by
  have : ∀ (ks acc : List (List Int)), acc.Nodup → (ks.foldl addK acc).Nodup := by
    intro ks
    induction ks with
    | nil => intro acc h; exact h
    | cons k ks ih =>
      intro acc h
      refine ih _ ?_
      unfold addK
      split
      · exact h
      · rename_i hn
        rw [List.nodup_append]
        exact ⟨h, by simp, fun a ha b hb e => hn (by rw [List.mem_singleton.mp hb] at e; rw [← e]; exact ha)⟩
  exact this ks [] List.nodup_nil
theorem due_first {S : List (List Int)} (nd : S.Nodup) : ∀ (pre r : List (List Int)), S = pre ++ r → (∀ t ∈ pre, mates S t = []) → dueOf S r = firstTwo r
  | pre, [], _, _ => rfl
  | pre, w :: r, e, hp => by
    have hm : mates S w = r.filter fun t => decide (srtI t = srtI w) := by
      unfold mates
      rw [e, List.filter_append, List.filter_cons]
      have nw : w ∈ S := by rw [e]; simp
      have h1 : pre.filter (fun t => !decide (t = w) && decide (srtI t = srtI w)) = [] := by
        rw [List.filter_eq_nil_iff]
        intro t ht z
        rw [Bool.and_eq_true] at z
        have z1 : t ≠ w := by simpa using z.1
        have z2 : srtI t = srtI w := of_decide_eq_true z.2
        have : w ∈ mates S t := by
          unfold mates
          rw [List.mem_filter]
          exact ⟨nw, by rw [Bool.and_eq_true]; exact ⟨by simpa using z1.symm, decide_eq_true z2.symm⟩⟩
        rw [hp t ht] at this
        cases this
      rw [h1]
      simp only [decide_true, Bool.not_true, Bool.false_and, Bool.false_eq_true, if_false, List.nil_append]
      apply List.filter_congr
      intro t ht
      have : t ≠ w := fun z => by
        rw [e, List.nodup_append] at nd
        have := (List.nodup_cons.mp nd.2.1).1
        rw [z] at ht
        exact this ht
      simp [this]
    rw [firstTwo_cons]
    unfold dueOf
    have hf : ∀ l : List (List Int), l.find? (fun o => decide (srtI o = srtI w)) = (l.filter fun t => decide (srtI t = srtI w)).head? := fun l => (List.head?_filter (p := fun t => decide (srtI t = srtI w)) (l := l)).symm
    rw [hf, ← hm]
    cases q : mates S w with
    | cons t u => rfl
    | nil =>
      have := due_first nd (pre ++ [w]) r (by rw [e]; simp) (fun t ht => by
        rcases List.mem_append.mp ht with z | z
        · exact hp t z
        · rw [List.mem_singleton.mp z]; exact q)
      exact this
theorem due_some {S : List (List Int)} : ∀ {r : List (List Int)}, (dueOf S r).isSome = r.any fun w => !(mates S w).isEmpty
  | [] => rfl
  | w :: r => by
    unfold dueOf
    rw [List.any_cons]
    cases q : mates S w with
    | cons t u => rfl
    | nil =>
      show (dueOf S r).isSome = _
      rw [due_some (r := r)]
      rfl
/-- the sorted words, by code or as lots -/
theorem some_ord {ws ls : List (List Int)} (hb : ∀ k ∈ ws, k.length = 4 ∧ TS.Bd 64 k) (nd : ls.Nodup) (hm : ∀ k, k ∈ ls ↔ k ∈ ws) (hp : ls.Pairwise (fun a b => TS.code 64 a ≤ TS.code 64 b)) : ls = ordOf ws := by
  have pm : ls.Perm (ordOf ws) := by
    unfold ordOf
    refine List.Perm.trans ?_ (List.mergeSort_perm _ _).symm
    exact (List.perm_ext_iff_of_nodup nd (ddK_nodup ws)).mpr fun k => by rw [hm, mem_ddK]
  refine ordT.uniq (hp.imp_of_mem fun {a b} ha hb' h => ?_) (ordT.srt _) pm
  have h1 := hb a ((hm a).mp ha)
  have h2 := hb b ((hm b).mp hb')
  exact leT_code (by rw [h1.1, h2.1]) h1.2 h2.2 h
end F26

/-! what is shown is short -/
namespace F26
open PySem PySem.Spec L2

structure Sm (d : PyData) (w p : Nat) : Prop where
  lay : d.canLay0 = true
  sh : d.showable = true
  lv : d.leavesShort 13 = true
  wt : d.weight ≤ w
  dp : d.depth ≤ p
structure SmA (ds : List PyData) (w p : Nat) : Prop where
  lay : PyData.canLayAll0 ds = true
  sh : PyData.showableAll ds = true
  lv : PyData.leavesShortAll 13 ds = true
  wt : PyData.weightAll ds ≤ ds.length * (w + 1)
  dp : PyData.depthAll ds ≤ p
theorem Sm.shw {d : PyData} {w p : Nat} (s : Sm d w p) (hw : w ≤ 100000) (hp : p ≤ 40) : Shw d :=
  ⟨s.lay, s.sh, PyData.shown_fits (B := 13) (by decide) (by decide) s.lv (Nat.le_trans (Nat.le_trans s.wt hw) (by decide)), by have := s.dp; omega⟩
theorem sm_nat : ∀ n < 64, ((PyData.int ((n : Nat) : Int)).showable && (PyData.int ((n : Nat) : Int)).leavesShort 13 && decide ((PyData.int ((n : Nat) : Int)).weight ≤ 6)) = true := by decide +kernel
theorem sm_int {i : Int} (h0 : 0 ≤ i) (h1 : i < 64) : Sm (.int i) 6 1 := by
  obtain ⟨n, rfl⟩ : ∃ n : Nat, i = n := ⟨i.toNat, by omega⟩
  have := sm_nat n (by omega)
  simp only [Bool.and_eq_true, decide_eq_true_eq] at this
  exact ⟨by simp [PyData.canLay0], this.1.1, this.1.2, this.2, by simp [PyData.depth]⟩
theorem sma_of {ds : List PyData} {w p : Nat} : (∀ d ∈ ds, Sm d w p) → SmA ds w (p + 1) := by
  induction ds with
  | nil => intro _; exact ⟨by simp [PyData.canLayAll0], by simp [PyData.showableAll], by simp [PyData.leavesShortAll], by simp [PyData.weightAll], by simp [PyData.depthAll]⟩
  | cons d ds ih =>
    intro h
    have h1 := h d List.mem_cons_self
    have h2 := ih fun x hx => h x (List.mem_cons_of_mem _ hx)
    refine ⟨by simp [PyData.canLayAll0, h1.lay, h2.lay], by simp [PyData.showableAll, h1.sh, h2.sh], by simp [PyData.leavesShortAll, h1.lv, h2.lv], ?_, ?_⟩
    · have := h1.wt
      have := h2.wt
      simp only [PyData.weightAll, List.length_cons, Nat.succ_mul]
      omega
    · have := h1.dp
      have := h2.dp
      simp only [PyData.depthAll]
      omega
theorem Sm.mono {d : PyData} {w p w' p' : Nat} (s : Sm d w p) (hw : w ≤ w') (hp : p ≤ p') : Sm d w' p' := ⟨s.lay, s.sh, s.lv, by have := s.wt; omega, by have := s.dp; omega⟩
theorem sm_tup {ds : List PyData} {w p n : Nat} (h : ∀ d ∈ ds, Sm d w p) (hn : ds.length ≤ n) : Sm (.tuple ds) (n * (w + 1)) (p + 2) := by
  have a := sma_of h
  refine ⟨by simp only [PyData.canLay0]; exact a.lay, by simp only [PyData.showable]; exact a.sh, by simp only [PyData.leavesShort]; exact a.lv, ?_, ?_⟩
  · have := a.wt
    have := Nat.mul_le_mul_right (w + 1) hn
    simp only [PyData.weight]
    omega
  · have := a.dp
    simp only [PyData.depth]
    omega
theorem sm_lst {ds : List PyData} {w p n : Nat} (h : ∀ d ∈ ds, Sm d w p) (hn : ds.length ≤ n) : Sm (.list ds) (n * (w + 1)) (p + 2) := by
  have a := sma_of h
  refine ⟨by simp only [PyData.canLay0]; exact a.lay, by simp only [PyData.showable]; exact a.sh, by simp only [PyData.leavesShort]; exact a.lv, ?_, ?_⟩
  · have := a.wt
    have := Nat.mul_le_mul_right (w + 1) hn
    simp only [PyData.weight]
    omega
  · have := a.dp
    simp only [PyData.depth]
    omega
theorem sm_tI {k : List Int} (h : small k) (hn : k.length ≤ 9) : Sm (tI k) 63 3 := by
  have := sm_tup (ds := k.map .int) (w := 6) (p := 1) (n := 9) (fun d hd => by
    obtain ⟨i, hi, rfl⟩ := List.mem_map.mp hd
    exact sm_int (h i hi).1 (h i hi).2) (by rw [List.length_map]; exact hn)
  exact this
def okS (x : Str) : Bool := (PyData.str x).canLay0 && (PyData.str x).showable && (PyData.str x).leavesShort 13 && decide ((PyData.str x).weight ≤ 6)
theorem sm_str {x : Str} (h : okS x = true) : Sm (.str x) 6 1 := by
  unfold okS at h
  simp only [Bool.and_eq_true, decide_eq_true_eq] at h
  exact ⟨h.1.1.1, h.1.1.2, h.1.2, h.2, by simp [PyData.depth]⟩
theorem ok_two : okS "two" = true := by decide +kernel
theorem ok_lacks : okS "lacks" = true := by decide +kernel
theorem ok_web : okS "web" = true := by decide +kernel
theorem ok_cross : okS "cross" = true := by decide +kernel
/-- a size and few lots -/
theorem sm_netT {n : Nat} {ks : List (List Int)} (hn : n < 64) (hk : ∀ k ∈ ks, small k ∧ k.length ≤ 9) (hz : ks.length ≤ 40) : Sm (netT n ks) 6000 8 := by
  have h1 : Sm (tTs ks) (40 * 64) 5 := sm_tup (w := 63) (p := 3) (fun d hd => by
    obtain ⟨k, hk', rfl⟩ := List.mem_map.mp hd
    exact sm_tI (hk k hk').1 (hk k hk').2) (by rw [List.length_map]; exact hz)
  have h2 : Sm (.int (n : Int)) 6 1 := sm_int (by omega) (by omega)
  have := sm_tup (ds := [.int (n : Int), tTs ks]) (w := 2560) (p := 5) (n := 2) (fun d hd => by
    rcases List.mem_cons.mp hd with z | z
    · rw [z]; exact h2.mono (by decide) (by decide)
    · rw [List.mem_singleton.mp z]; exact h1) (Nat.le_refl _)
  exact this.mono (by decide) (by decide)
end F26

/-! walks: by twice, by pairs -/
namespace F26
open PySem PySem.Spec L2

def twoD (p : List Int × List Int) : PyData := .tuple [.str "two", tI p.1, tI p.2]
def optTw : Option (List Int × List Int) → PyData
  | none => .none
  | some p => twoD p
theorem isN_optTw (o) : isNon (optTw o) = !o.isSome := by cases o <;> rfl
theorem dueOf_cons (S : List (List Int)) (w : List Int) (r : List (List Int)) : dueOf S (w :: r) = match mates S w with
    | t :: _ => some (w, t)
    | [] => dueOf S r := rfl
def pmBT : List PyData → (PyData → Prop) → Prop := fun ds R => ∃ (n : Nat) (ws : List (List Int)) (ag : Bool), ds = [.int (n : Int), lTs ws, .bool ag] ∧ n ≤ 100 ∧ ws.length < 64 ∧ (∀ k ∈ ws, k.length = 4 ∧ small k) ∧
  (ag = true ↔ ∃ a ∈ ws, ∃ b ∈ ws, b ≠ a ∧ srtI b = srtI a) ∧ R (.bool true)
section
variable {P : Program} {w : World} {K : PySem.W.Frag} {mg : Str → Option Value} {base : Heap} {f : Addr} {fd : FuncData}
theorem sc47 : FnScope ["_law_wide", "_law_said", "_law_is_against", "_law_told", "_law_some", "_law_due", "_law_one", "_law_mates", "_law_two"] ["_law_wide", "_law_said", "_law_is_against"] (defScope (top 47)) := ⟨rfl, rfl, rfl, by decide +kernel, rfl, by decide +kernel, by decide +kernel⟩
theorem ok47 (F : Fun K "_law_by_twice" "_law_by_twice" (top 47) f fd) (bm : Bi mg) (c26 : Cl false P w K mg base 3 "four_fault" (spP pmFF)) : FnV true P w K mg base CX0 4 f fd ["_law_wide", "_law_said", "_law_is_against"] (spP pmBT) := by
  refine fnG F sc47 (fun ds R ⟨_, _, _, e, _⟩ => by rw [e]; rfl) (by decide) fun X H h ds R hX ⟨n, ws, ag, ed, hn, hz, hk, hag, hR⟩ => ?_
  obtain ⟨f, cdv, A, outer, s, H0, E, rfl, hr, gd⟩ := hX
  subst ed
  have hN := sc47.nd
  have gg := gd rfl
  have hb : ∀ k ∈ ws, k.length = 4 ∧ TS.Bd 64 k := fun k hk' => ⟨(hk k hk').1, fun m hm => (hk k hk').2 m hm⟩
  have mo : ∀ k ∈ ordOf ws, k.length = 4 ∧ small k := fun k hk' => hk k (mem_ordOf.mp hk')
  have lo : (ordOf ws).length ≤ 64 := by
    unfold ordOf
    have := ddK_len ws
    rw [List.length_mergeSort]
    omega
  have ndO : (ordOf ws).Nodup := ((List.mergeSort_perm (ddK ws) leT).nodup_iff).mpr (ddK_nodup ws)
  refine wss_cons (N1 := fun s => ∃ told, ((∀ a b, firstTwo (ordOf ws) = some (a, b) → told = twoD (a, b)) ∧ (firstTwo (ordOf ws) = none → told = .none ∨ ∃ k l, told = .tuple [.str "lacks", tI k, .int l])) ∧ s = [.d (.int (n : Int)), .d (lTs ws), .d (.bool ag), .d told, .d (lTs (ordOf ws)), .d .none, .u, .u, .u]) (ws_par3 3 4 5 rfl hN
    (wa_cons (Ra := fun told => (∀ a b, firstTwo (ordOf ws) = some (a, b) → told = twoD (a, b)) ∧ (firstTwo (ordOf ws) = none → told = .none ∨ ∃ k l, told = .tuple [.str "lacks", tI k, .int l])) (we_call c26 hr (by decide) rfl (da_cons (de_var 0) (da_cons (de_tuple rfl (bm _ (by decide)) isq_l (de_var 1)) wa_nil)) fun ds e => ⟨n, ws, e, hn, by omega, fun k hk' => (hk k hk').1, fun a b ef => ⟨fun a' b' ef' => by (rw [ef] at ef'; cases ef'; rfl), fun ef' => by (rw [ef] at ef'; cases ef')⟩, fun ef => ⟨⟨fun a' b' ef' => by (rw [ef] at ef'; cases ef'), fun _ => .inl rfl⟩, fun k l => ⟨fun a' b' ef' => by (rw [ef] at ef'; cases ef'), fun _ => .inr ⟨k, l, rfl⟩⟩⟩⟩)
      fun _ _ => wa_cons (Rr := fun _ r => r = [.none]) (we_sortSet hr rfl rfl (bm _ (by decide)) rfl (bm _ (by decide)) hz hb (de_var 1)) fun _ _ => da_cons de_non wa_nil)
    fun ds ⟨told, r, e1, ht, d2, r2, e2, ⟨ls, e3, nd, hm, pw⟩, e4⟩ => ⟨told, lTs ls, .none, by rw [e1, e2, e3, e4], told, ht, by rw [some_ord hb nd hm pw]; rfl⟩) fun s ⟨told, ht, e⟩ => ?_
  subst e
  generalize hO : ordOf ws = O at *
  have df : dueOf O O = firstTwo O := due_first ndO [] O rfl fun t z => nomatch z
  refine wss_cons (N1 := fun s => s = [.d (.int (n : Int)), .d (lTs ws), .d (.bool ag), .d told, .d (lTs O), .d (optTw (firstTwo O)), .u, .u, .u]) (ws_forN (as := O) (enc := tI) 6 [6, 7] (fun i s => ∃ o, ((o = none ∧ dueOf O O = dueOf O (O.drop i)) ∨ ∃ p, o = some p ∧ dueOf O O = some p) ∧ s = [.d (.int (n : Int)), .d (lTs ws), .d (.bool ag), .d told, .d (lTs O), .d (optTw o), .u, .u, .u]) PassesOwn.never rfl (di_list (de_var 4)) (pg_name hN rfl (Or.inr rfl))
    (fun i s ⟨o, _, e⟩ => by rw [e]; exact no_cons nofun (no_cons nofun (no_cons nofun (no_cons nofun (no_cons nofun (no_cons nofun (no_cons nofun (no_cons nofun (no_cons nofun no_nil))))))))) ⟨none, .inl ⟨rfl, rfl⟩, rfl⟩ (fun i wd s hw ⟨o, ho, e⟩ => ?_) fun s ⟨o, ho, e⟩ => ?_) fun s e => ?_
  · subst e
    obtain ⟨hl, ew⟩ := List.getElem?_eq_some_iff.mp hw
    have hd : O.drop i = wd :: O.drop (i + 1) := by rw [List.drop_eq_getElem_cons hl, ew]
    have mw := mo wd (List.mem_of_getElem? hw)
    rcases ho with ⟨rfl, ho⟩ | ⟨p, rfl, ho⟩
    · rw [hd] at ho
      refine wss_one (ws_if (dt_c (dc_isN (de_var 5))) (fun _ => ?_) fun e => by cases e)
      refine wss_cons (N1 := fun s => s = [.d (.int (n : Int)), .d (lTs ws), .d (.bool ag), .d told, .d (lTs O), .d .none, .d (tI wd), .d (lTs (mates O wd)), .u]) (ws_lcN (as := O) (enc := tI) (out := tI) (p := fun t => !decide (t = wd) && decide (srtI t = srtI wd)) 7 8 rfl hN (di_list (de_var 4)) (blkOk_by rfl) (fun t ht D s H C cl fp => ?_) (fun t ht _ D s H C cl fp => de_var 8) (by omega) rfl) fun s e => ?_
      · have mt := mo t ht
        exact dt_and (dt_c (dc_neT hr (de_var 8) (de_var 6))) fun _ => dt_c (dc_eqLI hr (de_sortI (ns := t) hr rfl rfl (bm _ (by decide)) (by omega) isq_t (de_var 8)) (de_sortI (ns := wd) hr rfl rfl (bm _ (by decide)) (by omega) isq_t (de_var 6)))
      subst e
      rw [dueOf_cons] at ho
      cases em : mates O wd with
      | nil =>
        rw [em] at ho
        refine wss_one (ws_set 5 (Re := fun d => d = .none) (de_if (x := .none) (dt_c (dc_neNil hr (shp_lTs (ks := [])) (de_var 7) (de_lst wa_nil))) (fun e => by cases e) fun _ => de_non) (fun d e => ⟨none, .inl ⟨rfl, ho⟩, by rw [e]; rfl⟩) hN)
      | cons t r =>
        rw [em] at ho
        refine wss_one (ws_set 5 (Re := fun d => d = twoD (wd, t)) (de_if (y := .none) (dt_c (dc_neNil hr (shp_lTs (ks := t :: r)) (de_var 7) (de_lst wa_nil))) (fun e => de_tup (da_cons de_str (da_cons (de_var 6) (da_cons (de_ix (n := 0) isq_l (de_var 7) de_int rfl rfl) wa_nil)))) fun e => by cases e) (fun d e => ⟨some (wd, t), .inr ⟨_, rfl, ho⟩, by rw [e]; rfl⟩) hN)
    · exact wss_one (ws_if (dt_c (dc_isN (de_var 5))) (fun e => by cases e) fun _ => wss_nil ⟨some p, .inr ⟨p, rfl, ho⟩, rfl⟩)
  · rcases ho with ⟨rfl, ho⟩ | ⟨p, rfl, ho⟩
    · rw [List.drop_of_length_le (Nat.le_refl _)] at ho
      rw [e, ← df, ho]
      rfl
    · rw [e, ← df, ho]
  · subst e
    have hsome : (firstTwo O).isSome = ag := by
      rw [← df, due_some]
      cases ag with
      | true =>
        obtain ⟨a, ha, b, hb', ne, eq⟩ := hag.mp rfl
        rw [List.any_eq_true]
        refine ⟨a, by rw [← hO]; exact mem_ordOf.mpr ha, ?_⟩
        have : b ∈ mates O a := by
          unfold mates
          rw [List.mem_filter]
          exact ⟨by rw [← hO]; exact mem_ordOf.mpr hb', by rw [Bool.and_eq_true]; exact ⟨by simpa using ne, decide_eq_true eq⟩⟩
        cases em : mates O a with
        | nil => rw [em] at this; cases this
        | cons t r => rfl
      | false =>
        rw [List.any_eq_false]
        intro a ha z
        cases em : mates O a with
        | nil => rw [em] at z; cases z
        | cons t r =>
          have : t ∈ mates O a := by rw [em]; exact List.mem_cons_self
          unfold mates at this
          rw [List.mem_filter, Bool.and_eq_true] at this
          have h1 : false = true := hag.mpr ⟨a, mem_ordOf.mp (by rw [hO]; exact ha), t, mem_ordOf.mp (by rw [hO]; exact this.1), by simpa using this.2.1, of_decide_eq_true this.2.2⟩
          cases h1
    refine wss_cons (N1 := fun s => s = [.d (.int (n : Int)), .d (lTs ws), .d (.bool ag), .d told, .d (lTs O), .d (optTw (firstTwo O)), .u, .u, .u]) (ws_if (dt_c (dc_neB (de_c (dc_notN (de_var 5))) (de_var 2))) (fun e => ?_) fun _ => wss_nil rfl) fun s e => ?_
    · exfalso
      rw [isN_optTw, Bool.not_not, hsome, decide_eq_true rfl] at e
      cases e
    subst e
    cases ef : firstTwo O with
    | none =>
      refine wss_cons (N1 := fun _ => False) (ws_if (dt_c (dc_isN (de_var 5))) (fun _ => ?_) fun e => by cases e) fun s e => e.elim
      rcases ht.2 ef with rfl | ⟨k, l, rfl⟩
      · exact wss_one (ws_ret (de_orV (t := true) (de_c (dc_isN (de_var 3))) fun e => by cases e) fun d e => by rw [e]; exact hR)
      · exact wss_one (ws_ret (de_orV (de_c (dc_isN (de_var 3))) fun _ => de_orV1 (de_andV (de_isTup (e2 := .Name "tuple" ⟨0, 0, 0, 0⟩) rfl (bm _ (by decide)) rfl (bm _ (by decide)) (de_var 3)) fun _ => de_andV (de_c (dc_eqI (de_len rfl (bm _ (by decide)) isq_t (de_var 3)) de_int)) fun _ => de_andV1 (de_c (dc_eqS (de_repr (x := .str "lacks") hr gg rfl (bm _ (by decide)) ((sm_str ok_lacks).shw (by decide) (by decide)) (.inl ⟨_, rfl⟩) (de_ix (n := 0) isq_t (de_var 3) de_int rfl rfl)) (de_repr (x := .str "lacks") hr gg rfl (bm _ (by decide)) ((sm_str ok_lacks).shw (by decide) (by decide)) (.inl ⟨_, rfl⟩) de_str))))) fun d e => by
          rw [e, decide_eq_true rfl]
          exact hR)
    | some p =>
      obtain ⟨a, b⟩ := p
      have et := ht.1 a b ef
      have ma : a ∈ O ∧ b ∈ O := by
        have : ∀ l : List (List Int), firstTwo l = some (a, b) → a ∈ l ∧ b ∈ l := by
          intro l
          induction l with
          | nil => intro z; cases z
          | cons w r ih =>
            intro z
            rw [firstTwo_cons] at z
            cases q : r.find? (fun o => decide (srtI o = srtI w)) with
            | some o =>
              rw [q] at z
              have z' := Option.some.inj z
              cases z'
              exact ⟨List.mem_cons_self, List.mem_cons_of_mem _ (List.mem_of_find?_eq_some q)⟩
            | none =>
              rw [q] at z
              exact ⟨List.mem_cons_of_mem _ (ih z).1, List.mem_cons_of_mem _ (ih z).2⟩
        exact this O ef
      have sw : Shw (twoD (a, b)) := (sm_tup (w := 63) (p := 3) (n := 3) (ds := [.str "two", tI a, tI b]) (fun d hd => by
        rcases List.mem_cons.mp hd with z | hd
        · rw [z]; exact (sm_str ok_two).mono (by decide) (by decide)
        rcases List.mem_cons.mp hd with z | hd
        · rw [z]; exact sm_tI (mo a ma.1).2 (by rw [(mo a ma.1).1]; decide)
        rw [List.mem_singleton.mp hd]
        exact sm_tI (mo b ma.2).2 (by rw [(mo b ma.2).1]; decide)) (Nat.le_refl _)).shw (by decide) (by decide)
      subst et
      refine wss_cons (N1 := fun s => s = [.d (.int (n : Int)), .d (lTs ws), .d (.bool ag), .d (twoD (a, b)), .d (lTs O), .d (twoD (a, b)), .u, .u, .u]) (ws_if (dt_c (dc_isN (de_var 5))) (fun e => by cases e) fun _ => wss_nil rfl) fun s e => ?_
      subst e
      exact wss_one (ws_ret (de_c (dc_eqS (de_repr hr gg rfl (bm _ (by decide)) sw (.inr (.inr ⟨_, rfl⟩)) (de_var 3)) (de_repr hr gg rfl (bm _ (by decide)) sw (.inr (.inr ⟨_, rfl⟩)) (de_var 5)))) fun d e => by
        rw [e, decide_eq_true rfl]
        exact hR)
end
end F26

/-! walk: by pairs -/
namespace F26
open PySem PySem.Spec L2

def anyX (hs gs : List (List Int)) : Bool := hs.any fun a => gs.any fun b => !goB (bitsOf a) (bitsOf b)
def anyC (hs gs : List (List Int)) : Bool := hs.any fun a => gs.any fun b => crossB (bitsOf a) (bitsOf b)
/-- lots of leaves below n -/
def below (n : Nat) (hs : List (List Int)) : Prop := hs.length ≤ 20 ∧ ∀ k ∈ hs, k.length ≤ 9 ∧ ∀ x ∈ k, 0 ≤ x ∧ x < (n : Int)
def pmBP : List PyData → (PyData → Prop) → Prop := fun ds R => ∃ (n : Nat) (hs gs : List (List Int)) (sp : Int) (ag : Bool), ds = [.int (n : Int), netT n hs, netT n gs, .int sp, .bool ag] ∧ 1 ≤ n ∧ n ≤ 6 ∧ below n hs ∧ below n gs ∧ 0 ≤ sp ∧
  anyX hs gs = ag ∧ (1 < n → anyC (inOrd (nestsOf n hs sp)) (inOrd (nestsOf n gs sp)) = ag) ∧ (n ≤ 1 → ag = false) ∧ R (.bool true)
theorem mem_inOrd {ks : List (List Int)} {k : List Int} : k ∈ inOrd ks ↔ k ∈ ks := by
  unfold inOrd
  rw [List.mem_mergeSort, mem_ddK]
theorem nests_small {n : Nat} {hs : List (List Int)} {sp : Int} (h : below n hs) (hn : n ≤ 6) (hp : 0 ≤ sp) : ∀ k ∈ nestsOf n hs sp, small k := fun k hk => by
  unfold nestsOf at hk
  rcases List.mem_append.mp hk with z | z
  · obtain ⟨y, hy, rfl⟩ := List.mem_map.mp z
    intro l hl
    obtain ⟨x, hx, rfl⟩ := List.mem_map.mp hl
    have r := partWo_in (leaf := sp) (h.2 y hy).2 x hx
    have ne : x ≠ sp := fun e => by
      subst e
      unfold partWo at hx
      split at hx
      · rename_i hm
        have := (List.mem_filter.mp hx).2
        rw [decide_eq_true hm] at this
        cases this
      · rename_i hm
        exact hm hx
    unfold relab
    split <;> omega
  · split at z
    · rw [List.mem_singleton.mp z]
      intro l hl
      have := mem_rangeI.mp hl
      omega
    · cases z
theorem nests_len {n : Nat} {hs : List (List Int)} {sp : Int} (h : below n hs) : (inOrd (nestsOf n hs sp)).length ≤ 500 := by
  unfold inOrd
  rw [List.length_mergeSort]
  refine Nat.le_trans (ddK_len _) ?_
  unfold nestsOf
  have := h.1
  rw [List.length_append, List.length_map]
  split <;> simp <;> omega
section
variable {P : Program} {w : World} {K : PySem.W.Frag} {mg : Str → Option Value} {base : Heap} {f : Addr} {fd : FuncData}
theorem sc48 : FnScope ["_law_wide", "_law_net", "_law_mate_here", "_law_spot", "_law_is_against", "_law_found", "_law_part_here", "_law_crossed", "_law_half"] ["_law_wide", "_law_net", "_law_mate_here", "_law_spot", "_law_is_against"] (defScope (top 48)) := ⟨rfl, rfl, rfl, by decide +kernel, rfl, by decide +kernel, by decide +kernel⟩
theorem ok48 (F : Fun K "_law_by_pairs" "_law_by_pairs" (top 48) f fd) (c12 : Cl false P w K mg base 2 "go_together" (spP pmGoT)) (c18 : Cl false P w K mg base 5 "rooted" (spP pmRt)) (c30 : Cl false P w K mg base 3 "finer_pair" (spP pmFP)) : FnV false P w K mg base CX0 6 f fd ["_law_wide", "_law_net", "_law_mate_here", "_law_spot", "_law_is_against"] (spP pmBP) := by
  refine fnG F sc48 (fun ds R ⟨_, _, _, _, _, e, _⟩ => by rw [e]; rfl) (by decide) fun X H h ds R hX ⟨n, hs, gs, sp, ag, ed, n1, hn, bh, bg, hsp, hX', hC, h1, hR⟩ => ?_
  obtain ⟨f, cdv, A, outer, s, H0, E, rfl, hr, gd⟩ := hX
  subst ed
  have hN := sc48.nd
  have smh : ∀ k ∈ hs, small k := fun k hk x hx => by have := (bh.2 k hk).2 x hx; omega
  have smg : ∀ k ∈ gs, small k := fun k hk x hx => by have := (bg.2 k hk).2 x hx; omega
  refine wss_cons (N1 := fun s => s = [.d (.int (n : Int)), .d (netT n hs), .d (netT n gs), .d (.int sp), .d (.bool ag), .d (lI []), .u, .u, .u]) (ws_set 5 (de_lst wa_nil) (fun d e => by rw [e]; rfl) hN) fun s e => ?_
  subst e
  refine wss_cons (N1 := fun s => ∃ fs : List Int, (decide (fs = []) = !ag) ∧ s = [.d (.int (n : Int)), .d (netT n hs), .d (netT n gs), .d (.int sp), .d (.bool ag), .d (lI fs), .u, .u, .u]) (ws_forN (as := hs) (enc := tI) 6 [6] (fun i s => ∃ fs : List Int, fs.length ≤ i * 20 ∧ (decide (fs = []) = !(anyX (hs.take i) gs)) ∧ s = [.d (.int (n : Int)), .d (netT n hs), .d (netT n gs), .d (.int sp), .d (.bool ag), .d (lI fs), .u, .u, .u]) PassesOwn.never rfl (di_tup (de_ix (n := 1) isq_t (de_var 1) de_int rfl rfl)) (pg_name hN rfl (Or.inr rfl))
    (fun i s ⟨fs, _, _, e⟩ => by rw [e]; exact no_cons nofun (no_cons nofun (no_cons nofun (no_cons nofun (no_cons nofun (no_cons nofun (no_cons nofun (no_cons nofun (no_cons nofun no_nil))))))))) ⟨[], Nat.zero_le _, rfl, rfl⟩ (fun i k s hk ⟨fs, lf, hf, e⟩ => ?_) fun s ⟨fs, _, hf, e⟩ => ⟨fs, by rw [hf, List.take_length, hX'], e⟩) fun s ⟨fs, hf, e⟩ => ?_
  · subst e
    have il := (List.getElem?_eq_some_iff.mp hk).1
    have l1 := bh.1
    have l2 := bg.1
    have mk := List.mem_of_getElem? hk
    refine wss_one (ws_set 5 (de_catL (ds := fs.map .int) (es := (gs.filter fun b => !goB (bitsOf k) (bitsOf b)).map fun _ => .int 1) (de_var 5) (de_lcF (as := gs) (enc := tI) (out := fun _ => .int 1) (p := fun b => !goB (bitsOf k) (bitsOf b)) 8 rfl hN (di_tup (de_ix (n := 1) isq_t (de_var 2) de_int rfl rfl)) (blkOk_by rfl) (fun b hb D s H C cl fp => WT.eq (dt_c (dc_notB (we_call c12 hr (by decide) rfl (da_cons (de_var 6) (da_cons (de_var 8) wa_nil)) fun ds e => ⟨k, b, e, smh k mk, smg b hb, rfl⟩) de_bl)) (by cases goB (bitsOf k) (bitsOf b) <;> rfl)) (fun b hb _ D s H C cl fp => de_int) (by omega)) ?_) (fun d e => ?_) hN)
    · have := List.length_filter_le (fun b => !goB (bitsOf k) (bitsOf b)) gs
      rw [List.length_map, List.length_map]
      omega
    · refine ⟨fs ++ (gs.filter fun b => !goB (bitsOf k) (bitsOf b)).map fun _ => 1, ?_, ?_, ?_⟩
      · have := List.length_filter_le (fun b => !goB (bitsOf k) (bitsOf b)) gs
        rw [List.length_append, List.length_map]
        omega
      · have e1 : anyX (hs.take (i + 1)) gs = (anyX (hs.take i) gs || gs.any fun b => !goB (bitsOf k) (bitsOf b)) := by
          unfold anyX
          rw [List.take_add_one, hk, List.any_append]
          simp
        have e2 : decide (((gs.filter fun b => !goB (bitsOf k) (bitsOf b)).map fun _ => (1 : Int)) = []) = !(gs.any fun b => !goB (bitsOf k) (bitsOf b)) := by
          cases q : gs.any fun b => !goB (bitsOf k) (bitsOf b) with
          | true =>
            obtain ⟨b, hb, hg⟩ := List.any_eq_true.mp q
            refine decide_eq_false fun z => ?_
            have z' := List.map_eq_nil_iff.mp z
            have : b ∈ gs.filter fun b => !goB (bitsOf k) (bitsOf b) := List.mem_filter.mpr ⟨hb, hg⟩
            rw [z'] at this
            cases this
          | false =>
            refine decide_eq_true ?_
            rw [List.map_eq_nil_iff, List.filter_eq_nil_iff]
            exact fun b hb => List.any_eq_false.mp q b hb
        rw [e1, Bool.not_or, ← hf, ← e2]
        by_cases q : fs = []
        · subst q
          simp
        · simp [q]
      · rw [e]
        unfold lI
        rw [List.map_append, List.map_map]
        rfl
  · subst e
    refine wss_cons (N1 := fun s => ∃ d, isNon d = !ag ∧ s = [.d (.int (n : Int)), .d (netT n hs), .d (netT n gs), .d (.int sp), .d (.bool ag), .d (lI fs), .u, .d d, .u]) (ws_set 7 (Re := fun d => isNon d = !ag) (we_if (dt_c (dc_gt (de_var 0) de_int)) (fun e => ?_) fun e => ?_) (fun d hd => ⟨d, hd, rfl⟩) hN) fun s ⟨d, hd, e⟩ => ?_
    · have n2 : 1 < n := by
        have := of_decide_eq_true e.symm
        omega
      have hc := hC n2
      have bk : ∀ {ks : List (List Int)}, below n ks → ks.length ≤ 100 ∧ ∀ k ∈ ks, k.length ≤ 100 ∧ ∀ x ∈ k, 0 ≤ x ∧ x < (n : Int) := fun b => ⟨by have := b.1; omega, fun k hk => ⟨by have := (b.2 k hk).1; omega, (b.2 k hk).2⟩⟩
      refine we_call c30 hr (by decide) rfl (da_cons (we_call (R := fun x => x = netT (n - 1) (inOrd (nestsOf n hs sp))) c18 hr (by decide) rfl (da_cons (de_var 1) (da_cons (de_var 3) wa_nil)) fun ds e => ⟨n, hs, sp, e, n1, by omega, (bk bh).1, (bk bh).2, rfl⟩) (da_cons (we_call (R := fun x => x = netT (n - 1) (inOrd (nestsOf n gs sp))) c18 hr (by decide) rfl (da_cons (de_var 2) (da_cons (de_var 3) wa_nil)) fun ds e => ⟨n, gs, sp, e, n1, by omega, (bk bg).1, (bk bg).2, rfl⟩) wa_nil)) fun ds e => ⟨n - 1, _, _, e, nests_len bh, nests_len bg, fun k hk => nests_small bh hn hsp k (mem_inOrd.mp hk), fun k hk => nests_small bg hn hsp k (mem_inOrd.mp hk), fun ⟨a, ha, b, hb, hab⟩ i j => ?_, fun hall => ?_⟩
      · have : ag = true := by
          rw [← hc]
          exact List.any_eq_true.mpr ⟨a, ha, List.any_eq_true.mpr ⟨b, hb, hab⟩⟩
        rw [this]
        rfl
      · have : ag = false := by
          rw [← hc]
          exact List.any_eq_false.mpr fun a ha z => by
            obtain ⟨b, hb, hab⟩ := List.any_eq_true.mp z
            rw [hall a ha b hb] at hab
            cases hab
        rw [this]
        rfl
    · refine WE.of de_non ?_
      have : n ≤ 1 := by
        have := of_decide_eq_false e.symm
        omega
      rw [h1 this]
      rfl
    · subst e
      refine wss_one (ws_ret (de_andV (de_c (dc_eqB (de_c (dc_neNil hr shp_lI (de_var 5) (de_lst wa_nil))) (de_var 4))) fun _ => de_andV1 (de_c (dc_eqB (de_c (dc_notN (de_var 7))) (de_var 4)))) fun d e => ?_)
      have e1 : decide (fs.map PyData.int = []) = decide (fs = []) := decide_eq_decide.mpr List.map_eq_nil_iff
      rw [e, e1, hf, hd, Bool.not_not, decide_eq_true rfl]
      exact hR
end
end F26

/-! walk: the mate -/
namespace F26
open PySem PySem.Spec L2

def goN (a b : Nat) : Bool := decide (a &&& b = 0) || (decide (a &&& b = a) || decide (a &&& b = b))
theorem goN_symm (a b : Nat) : goN a b = goN b a := by
  unfold goN
  rw [Nat.and_comm b a]
  rw [Bool.or_comm (decide (a &&& b = b))]
theorem goB_nat (a b : Nat) : goB (a : Int) (b : Int) = goN a b := by
  unfold goB goN
  rw [and_nat]
  by_cases h1 : a &&& b = 0
  · simp [h1]
  · by_cases h2 : a &&& b = a
    · simp [h2]
    · by_cases h3 : a &&& b = b
      · simp [h3]
      · have z1 : ¬ (((a &&& b : Nat) : Int) = 0) := fun z => h1 (Int.ofNat.inj z)
        have z2 : ¬ (((a &&& b : Nat) : Int) = (a : Int)) := fun z => h2 (Int.ofNat.inj z)
        have z3 : ¬ (((a &&& b : Nat) : Int) = (b : Int)) := fun z => h3 (Int.ofNat.inj z)
        simp only [List.mem_cons, z1, z2, z3, List.not_mem_nil, or_self, decide_false, h1, h2, h3]
        rfl
/-- an even mask; a halving; a web of halvings -/
def ev (n m : Nat) : Bool := decide (m % 2 = 0) && decide (m < 2 ^ n)
def hv (n m : Nat) : Bool := ev n m && (decide (2 ≤ (partOf m).length) && decide ((partOf m).length + 2 ≤ n))
structure Web (n : Nat) (ms : List Nat) : Prop where
  hv : ∀ m ∈ ms, hv n m = true
  go : ms.Pairwise fun a b => goN a b = true ∧ a ≠ b
theorem Web.sub {n : Nat} {ms ls : List Nat} (w : Web n ms) (s : ls.Sublist ms) : Web n ls := ⟨fun m hm => w.hv m (s.subset hm), w.go.sublist s⟩
theorem ev_xor : ∀ n < 7, ∀ a < 64, ∀ b < 64, ev n a = true → ev n b = true → ev n (a ^^^ b) = true := by decide +kernel
theorem ev_pow : ∀ n < 7, ∀ k < 6, k + 1 < n → ev n (2 * 2 ^ k) = true := by decide +kernel
theorem ev_dbl : ∀ n < 7, ∀ i < 32, i < 2 ^ (n - 1) → 1 ≤ n → ev n (2 * i) = true := by decide +kernel
theorem ev_lt {n m : Nat} (hn : n ≤ 6) (h : ev n m = true) : m < 64 := by
  unfold ev at h
  rw [Bool.and_eq_true] at h
  have h1 := of_decide_eq_true h.2
  have : 2 ^ n ≤ 2 ^ 6 := Nat.pow_le_pow_right (by decide) hn
  omega
theorem hv_ev {n m : Nat} (h : hv n m = true) : ev n m = true := by
  unfold hv at h
  rw [Bool.and_eq_true] at h
  exact h.1
def pmMate : List PyData → (PyData → Prop) → Prop := fun ds R => ∃ (n : Nat) (as : List Nat), ds = [.int (n : Int), lN as] ∧ 1 ≤ n ∧ n ≤ 6 ∧ Web n as ∧ as.length ≤ 10 ∧ ∀ ms, Web n ms → ms.length ≤ 15 → R (lN ms)
section
variable {P : Program} {w : World} {K : PySem.W.Frag} {mg : Str → Option Value} {base : Heap} {f : Addr} {fd : FuncData}
theorem sc42 : FnScope ["_law_fount_here", "_law_wide", "_law_arcs_here", "_law_way", "_law_found", "_law_limit", "_law_mask", "_law_kin", "_law_turn", "_law_mate_here"] ["_law_fount_here", "_law_wide", "_law_arcs_here"] (defScope (top 42)) := ⟨rfl, rfl, rfl, by decide +kernel, rfl, by decide +kernel, by decide +kernel⟩
theorem ok42 (ia : ∀ n ms, 1 ≤ n → n ≤ 6 → IsArcs n ms → Web n ms ∧ ms.length ≤ 10) (F : Fun K "_law_mate" "_law_mate" (top 42) f fd) (bm : Bi mg) (c33 : Cl false P w K mg base 1 "_law_draw" (spI pmDraw)) (c34 : Cl false P w K mg base 2 "_law_pick" (spI pmPick)) (c37 : Cl false P w K mg base 1 "_law_part" (spP pmPart)) (c40 : Cl false P w K mg base 4 "_law_arcs" (spI pmArcs)) (c43 : Cl false P w K mg base 1 "_law_goes" (spP pmGo)) : FnV false P w K mg base CX0 5 f fd ["_law_fount_here", "_law_wide", "_law_arcs_here"] (spI pmMate) := by
  refine fnI F sc42 (fun ds R ⟨_, _, e, _⟩ => by rw [e]; rfl) (by decide) fun X H h F G ds R hX ⟨n, as, ed, n1, hn, wa, la, hR⟩ => ?_
  obtain ⟨f, cdv, A, outer, s, H0, E, rfl, hr, gd⟩ := hX
  subst ed
  have hN := sc42.nd
  have o10 : ∀ {a b c d e f g h i : Sl}, (∀ F' G', a ≠ .f F' G') → (∀ F' G', b ≠ .f F' G') → (∀ F' G', c ≠ .f F' G') → (∀ F' G', d ≠ .f F' G') → (∀ F' G', e ≠ .f F' G') → (∀ F' G', f ≠ .f F' G') → (∀ F' G', g ≠ .f F' G') → (∀ F' G', h ≠ .f F' G') → (∀ F' G', i ≠ .f F' G') → oneF F G [.f F G, a, b, c, d, e, f, g, h, i] := fun h1 h2 h3 h4 h5 h6 h7 h8 h9 => one_f (one_cons h1 (one_cons h2 (one_cons h3 (one_cons h4 (one_cons h5 (one_cons h6 (one_cons h7 (one_cons h8 (one_cons h9 one_nil)))))))))
  have p0 : 0 < 2 ^ (n - 1) := Nat.two_pow_pos _
  have p1 : 2 ^ (n - 1) ≤ 2 ^ 5 := Nat.pow_le_pow_right (by decide) (by omega)
  refine wss_cons (N1 := fun s => ∃ wy : Nat, s = [.f F G, .d (.int (n : Int)), .d (lN as), .d (.int (wy : Int)), .d (lN []), .d (iN (2 ^ (n - 1))), .u, .u, .u, .u]) (ws_par3 3 4 5 rfl hN (wa_cons (Ra := fun d => ∃ i : Nat, d = .int (i : Int)) (Rr := fun _ r => r = [.list [], .int (1 * 2 ^ ((n : Int) - 1).toNat)]) (we_callI 0 c33 hr (by decide) rfl rfl (o10 nofun nofun nofun nofun nofun nofun nofun nofun nofun) (da_cons de_int wa_nil) fun ds e => ⟨4, e, by decide, by decide, fun i _ => ⟨i, rfl⟩⟩)
    fun _ _ => da_cons (de_lst wa_nil) (da_cons (de_shl de_int (de_sub (de_var 1) de_int) ⟨by omega, by omega, by decide⟩) wa_nil)) fun ds ⟨d, r, e1, ⟨i, e2⟩, e3⟩ => ⟨.int (i : Int), .list [], .int (1 * 2 ^ ((n : Int) - 1).toNat), by rw [e1, e3, e2], i, by rw [show ((n : Int) - 1).toNat = n - 1 by omega, pow_eq]; rfl⟩) fun s ⟨wy, e⟩ => ?_
  subst e
  refine wss_cons (N1 := fun s => s = [.f F G, .d (.int (n : Int)), .d (lN as), .d (.int (wy : Int)), .d (lN []), .d (iN (2 ^ (n - 1))), .u, .u, .u, .u]) (ws_if (dt_c (dc_eqI (de_var 3) de_int)) (fun _ => wss_one (ws_ret (Re := R) (we_callI 0 c40 hr (by decide) rfl rfl (o10 nofun nofun nofun nofun nofun nofun nofun nofun nofun) (wa_cons (Ra := fun d => d = .int (n : Int)) (Rr := fun _ r => ∃ i : Nat, r = [.int (i : Int)]) (de_var 1) fun _ _ => WA.imp (wa_one (Ra := fun d => ∃ i : Nat, d = .int (i : Int)) (we_callI 0 c33 hr (by decide) rfl rfl (o10 nofun nofun nofun nofun nofun nofun nofun nofun nofun) (da_cons de_int wa_nil) fun ds e => ⟨2, e, by decide, by decide, fun i _ => ⟨i, rfl⟩⟩)) fun ds ⟨d, e1, i, e2⟩ => ⟨i, by rw [e1, e2]⟩) fun ds ⟨d, r, e1, e2, i, e3⟩ => ⟨n, i, by rw [e1, e2, e3], n1, by omega, fun ms hm => hR ms (ia n ms n1 hn hm).1 (by have := (ia n ms n1 hn hm).2; omega)⟩) fun d r => ⟨rfl, r⟩)) fun _ => wss_nil rfl) fun s e => ?_
  subst e
  -- way 1: some of the arcs
  refine wss_cons (N1 := fun s => ∃ ms, ms.Sublist as ∧ s = [.f F G, .d (.int (n : Int)), .d (lN as), .d (.int (wy : Int)), .d (lN ms), .d (iN (2 ^ (n - 1))), .u, .u, .u, .u]) (ws_if (dt_c (dc_eqI (de_var 3) de_int)) (fun _ => wss_one ?_) fun _ => wss_nil ⟨[], List.nil_sublist _, rfl⟩) fun s ⟨ms, hms, e⟩ => ?_
  · refine ws_setLc (P := fun ds => ds = as.map iN) (T := tName 6) (own := [("_law_mask", 6)]) 4 (fun ds i acc => ∃ ms, ms.Sublist (as.take i) ∧ acc = ms.map iN) rfl hN (di_list (WE.eq (de_var 2) (lN_eq as))) (blkOk_by rfl) (fun s H C cl fp => pg_name hN rfl (Or.inl rfl)) (by decide) tg_name tk_name rfl (fun ds e => by rw [e, List.length_map]; omega) (fun ds _ => ⟨[], List.nil_sublist _, rfl⟩) (fun ds i d acc pd hd ⟨ms, hms, ea⟩ => ?_) fun ds acc e1 _ ⟨ms, hms, ea⟩ => ?_
    · subst pd ea
      obtain ⟨a, ha, rfl⟩ := map_get hd
      refine ⟨⟨_, rfl⟩, fun ss' t => ?_⟩
      have t' : ss' = [.f F G, .d (.int (n : Int)), .d (lN as), .d (.int (wy : Int)), .d (lN []), .d (iN (2 ^ (n - 1))), .d (iN a), .u, .u, .u] := t
      subst t'
      have et : as.take (i + 1) = as.take i ++ [a] := by rw [List.take_add_one, ha]; rfl
      refine ⟨fun _ => True, fun D s H C cl fp => ?_, fun _ => ⟨ms, by rw [et]; exact hms.trans (List.sublist_append_left _ _), rfl⟩, fun _ D s H C cl fp => WE.of (de_var 6) ⟨ms ++ [a], by rw [et]; exact List.Sublist.append hms (List.Sublist.refl _), by rw [List.map_append]; rfl⟩⟩
      exact wt_c (wc_eqN (Ra := fun _ => True) (we_callI 0 c33 hr (by decide) rfl rfl (o10 nofun nofun nofun nofun nofun nofun nofun nofun nofun) (da_cons de_int wa_nil) fun ds e => ⟨2, e, by decide, by decide, fun i _ => ⟨_, rfl, trivial⟩⟩) de_int)
    · rw [e1, List.length_map, List.take_length] at hms
      exact ⟨ms, hms, by rw [ea, lN_eq ms]; rfl⟩
  subst e
  -- the kin
  refine wss_cons (N1 := fun s => ∃ ks, (ks = as ∨ ks = []) ∧ s = [.f F G, .d (.int (n : Int)), .d (lN as), .d (.int (wy : Int)), .d (lN ms), .d (iN (2 ^ (n - 1))), .u, .d (lN ks), .u, .u]) (ws_set 7 (Re := fun d => ∃ ks, (ks = as ∨ ks = []) ∧ d = lN ks) (we_if (dt_c (dc_eqI (de_var 3) de_int)) (fun _ => WE.of (de_var 2) ⟨as, .inl rfl, rfl⟩) fun _ => WE.of (de_lst wa_nil) ⟨[], .inr rfl, rfl⟩) (fun d ⟨ks, hk, e⟩ => ⟨ks, hk, by rw [e]; rfl⟩) hN) fun s ⟨ks, hks, e⟩ => ?_
  subst e
  have lk : ks.length ≤ 10 := by
    rcases hks with z | z
    · rw [z]; exact la
    · rw [z]; exact Nat.zero_le _
  have lm : ms.length ≤ 10 := Nat.le_trans hms.length_le la
  refine wss_cons (N1 := fun s => ∃ fs, Web n fs ∧ fs.length ≤ 15 ∧ s = [.f F G, .d (.int (n : Int)), .d (lN as), .d (.int (wy : Int)), .d (lN fs), .d (iN (2 ^ (n - 1))), .u, .d (lN ks), .u, .u]) (ws_forRN (mm := 5) (lo := 0) 8 [6, 8] (fun i s => ∃ fs, Web n fs ∧ fs.length ≤ 10 + i ∧ s = [.f F G, .d (.int (n : Int)), .d (lN as), .d (.int (wy : Int)), .d (lN fs), .d (iN (2 ^ (n - 1))), .u, .d (lN ks), .u, .u]) PassesOwn.never rfl (wr1 _ rfl (bm _ (by decide)) de_int rfl (by omega)) (pg_name hN rfl (Or.inl rfl))
    ⟨ms, wa.sub hms, lm, rfl⟩ (fun i s hi ⟨fs, wf, lf, e⟩ => ?_) fun s ⟨fs, wf, lf, e⟩ => ⟨fs, wf, lf, e⟩) fun s ⟨fs, wf, lf, e⟩ => ?_
  · subst e
    refine wss_cons (N1 := fun s => ∃ m, ev n m = true ∧ s = [.f F G, .d (.int (n : Int)), .d (lN as), .d (.int (wy : Int)), .d (lN fs), .d (iN (2 ^ (n - 1))), .d (iN m), .d (lN ks), .d (.int (0 + (i : Nat))), .u]) (ws_set 6 (Re := fun d => ∃ m, ev n m = true ∧ d = iN m) (we_op op_mul (Ra := fun d => d = .int 2) de_int (fun _ _ => we_callI (R := fun d => ∃ i, i < 2 ^ (n - 1) ∧ d = iN i) 0 c33 hr (by decide) rfl rfl (o10 nofun nofun nofun nofun nofun nofun nofun nofun nofun) (da_cons (de_var 5) wa_nil) fun ds e => ⟨2 ^ (n - 1), e, p0, by omega, fun i hi => ⟨i, hi, rfl⟩⟩) fun x y ex ⟨k, hk, ey⟩ => by
      subst ex ey
      exact r2_I (d := .int (2 * (k : Int))) (.inl ⟨by decide, by decide⟩) (fun _ => .int _) ⟨2 * k, ev_dbl n (by omega) k (by omega) hk n1, by unfold iN; rw [Int.natCast_mul]; rfl⟩) (fun d ⟨m, hm, e⟩ => ⟨m, hm, by rw [e]; rfl⟩) hN) fun s ⟨m0, hm0, e⟩ => ?_
    subst e
    refine wss_cons (N1 := fun s => ∃ m, ev n m = true ∧ s = [.f F G, .d (.int (n : Int)), .d (lN as), .d (.int (wy : Int)), .d (lN fs), .d (iN (2 ^ (n - 1))), .d (iN m), .d (lN ks), .d (.int (0 + (i : Nat))), .u]) (ws_if (S := fun b => b = true → as ≠ []) (wt_w (ww_and (T := fun b => b = true → as ≠ []) (dt_c (dc_eqI (de_var 3) de_int)) (fun _ => ww_and1 (WT.imp (dt_c (dc_neNil hr shp_lN (de_var 2) (de_lst wa_nil))) fun b eb hb z => ?_)) fun _ z => by cases z)) (fun hne => ?_) fun _ => wss_nil ⟨m0, hm0, rfl⟩) fun s ⟨m, hm, e⟩ => ?_
    · rw [hb, z] at eb
      cases eb
    · have ne := hne rfl
      have n4 : 4 ≤ n := by
        cases as with
        | nil => exact absurd rfl ne
        | cons a r =>
          have := wa.hv a List.mem_cons_self
          unfold hv at this
          rw [Bool.and_eq_true, Bool.and_eq_true] at this
          have h1 := of_decide_eq_true this.2.1
          have h2 := of_decide_eq_true this.2.2
          omega
      refine wss_one (ws_set 6 (Re := fun d => ∃ m, ev n m = true ∧ d = iN m) (we_op op_xor (Ra := fun d => ∃ a, a ∈ as ∧ d = iN a) (Rb := fun _ d => ∃ k, k + 1 < n ∧ d = .int (2 * 2 ^ k)) (we_callI 0 c34 hr (by decide) rfl rfl (o10 nofun nofun nofun nofun nofun nofun nofun nofun nofun) (da_cons (de_var 2) wa_nil) fun ds e => ⟨as.map iN, by rw [e, lN_eq], fun z => ne (List.map_eq_nil_iff.mp z), by rw [List.length_map]; omega, fun d hd => by
        obtain ⟨m, hm, rfl⟩ := List.mem_map.mp hd
        exact ⟨m, hm, rfl⟩⟩) (fun _ _ => we_op op_shl (Ra := fun d => d = .int 2) (Rb := fun _ d => ∃ k, k + 1 < n ∧ d = iN k) de_int (fun _ _ => we_callI 0 c33 hr (by decide) rfl rfl (o10 nofun nofun nofun nofun nofun nofun nofun nofun nofun) (da_cons (de_sub (de_var 1) de_int) wa_nil) fun ds e => ⟨n - 1, by rw [e, show ((n - 1 : Nat) : Int) = (n : Int) - 1 by omega], by omega, by omega, fun k hk => ⟨k, by omega, rfl⟩⟩) fun x y ex ⟨k, hk, ey⟩ => by
          subst ex ey
          exact r2_I (d := .int (2 * 2 ^ k)) ⟨by omega, by omega, by decide⟩ (fun _ => .int _) ⟨k, hk, rfl⟩) fun x y ⟨a, ha, ex⟩ ⟨k, hk, ey⟩ => by
        subst ex ey
        have ea := hv_ev (wa.hv a ha)
        have eb := ev_pow n (by omega) k (by omega) hk
        have la' := ev_lt hn ea
        have lb' := ev_lt hn eb
        have ec : (2 : Int) * 2 ^ k = ((2 * 2 ^ k : Nat) : Int) := by rw [Int.natCast_mul, Int.natCast_pow]; rfl
        rw [ec]
        exact r2_I0 (d := iN (a ^^^ (2 * 2 ^ k))) (fun _ => by rw [xor_nat la' lb']; exact .int _) ⟨_, ev_xor n (by omega) a la' _ lb' ea eb, rfl⟩) (fun d ⟨m, hm, e⟩ => ⟨m, hm, by rw [e]; rfl⟩) hN)
    subst e
    refine wss_one (ws_if (dt_and (dt_chain de_int (de_len rfl (bm _ (by decide)) isq_t (we_call (R := fun x => x = tI (partOf m)) c37 hr (by decide) rfl (da_cons (de_var 6) wa_nil) fun ds e => ⟨m, e, rfl⟩)) (de_sub (de_var 1) de_int)) fun _ => dt_c (dc_eqNil hr (ds := ((fs ++ ks).filter fun a => !goN a m).map fun _ => .int 1) ?_ (de_lcF (as := fs ++ ks) (enc := iN) (out := fun _ => .int 1) (p := fun a => !goN a m) 9 rfl hN (di_list (WE.eq (de_catL (WE.eq (de_var 4) (lN_eq fs)) (WE.eq (de_var 7) (lN_eq ks)) (by rw [List.length_map, List.length_map]; omega)) (by rw [List.map_append]))) (blkOk_by rfl) (fun a ha D s H C cl fp => dt_not (dt_val (WE.eq (we_call (R := fun x => x = .bool (goB (a : Int) (m : Int))) c43 hr (by decide) rfl (da_cons (de_var 9) (da_cons (de_var 6) wa_nil)) fun ds e => ⟨_, _, e, rfl⟩) (by rw [goB_nat])))) (fun a ha _ D s H C cl fp => de_int) (by rw [List.length_append]; omega)) (de_lst wa_nil))) (fun e => ?_) fun _ => wss_nil ⟨fs, wf, by omega, rfl⟩)
    · have := shp_lI (ns := ((fs ++ ks).filter fun a => !goN a m).map fun _ => (1 : Int))
      unfold lI at this
      rw [List.map_map] at this
      exact this
    · rw [eq_comm, Bool.and_eq_true, Bool.and_eq_true] at e
      obtain ⟨⟨g1, g2⟩, g3⟩ := e
      have g1 := of_decide_eq_true g1
      have g2 := of_decide_eq_true g2
      have g3 := List.map_eq_nil_iff.mp (of_decide_eq_true g3)
      rw [List.length_map] at g1 g2
      have hvm : hv n m = true := by
        unfold hv
        rw [Bool.and_eq_true, Bool.and_eq_true]
        exact ⟨hm, decide_eq_true (by omega), decide_eq_true (by omega)⟩
      have gom : ∀ a ∈ fs, goN a m = true := fun a ha => by
        have := List.filter_eq_nil_iff.mp g3 a (List.mem_append_left _ ha)
        simpa using this
      have lff := List.length_filter_le (fun a => !decide (a = m)) fs
      refine wss_one (ws_set 4 (de_catL (ds := (fs.filter fun a => !decide (a = m)).map iN) (es := [iN m]) (de_lcF (as := fs) (enc := iN) (out := iN) (p := fun a => !decide (a = m)) 9 rfl hN (di_list (WE.eq (de_var 4) (lN_eq fs))) (blkOk_by rfl) (fun a ha D s H C cl fp => WT.eq (dt_c (dc_neI (de_var 9) (de_var 6))) (by rw [show decide ((a : Int) = (m : Int)) = decide (a = m) from decide_eq_decide.mpr Int.ofNat_inj])) (fun a ha _ D s H C cl fp => de_var 9) (by omega)) (de_lst (da_cons (de_var 6) wa_nil)) (by rw [List.length_map]; simp; omega)) (fun d e => ⟨(fs.filter fun a => !decide (a = m)) ++ [m], ⟨fun x hx => ?_, ?_⟩, ?_, ?_⟩) hN)
      · rcases List.mem_append.mp hx with z | z
        · exact wf.hv x (List.mem_filter.mp z).1
        · rw [List.mem_singleton.mp z]; exact hvm
      · refine List.pairwise_append.mpr ⟨wf.go.sublist List.filter_sublist, List.pairwise_singleton _ _, fun a ha b hb => ?_⟩
        rw [List.mem_singleton.mp hb]
        obtain ⟨z1, z2⟩ := List.mem_filter.mp ha
        exact ⟨gom a z1, by simpa using z2⟩
      · rw [List.length_append]
        simp
        omega
      · rw [e, lN_eq ((fs.filter fun a => !decide (a = m)) ++ [m]), List.map_append]
        rfl
  · subst e
    exact wss_one (ws_ret (de_var 4) fun d e => ⟨rfl, by rw [e]; exact hR fs wf lf⟩)
end
end F26

/-! walk: the fount -/
namespace F26
open PySem PySem.Spec L2

section
variable {X : Cx} {B : Bs} {h : List Addr} {ss : List Sl} {a b : Expr} {p p2 p3 pos : Pos} {n : Str}
theorem de_lenQ (i : Nat) {q : Addr} {ns : List Int} (hg : Gl X "len") (hm : X.mg "len" = none) (hi : ss[i]? = some (.q q ns) := by rfl) (hN : X.N[i]? = some n := by rfl) (hv : Vis X.env.scope n := by first | exact Or.inl rfl | exact Or.inr (Or.inl rfl) | exact Or.inr (Or.inr rfl))
    (hd : (n == ("__debug__" : Str)) = false := by decide) (hcd : (n == ("__classdict__" : Str)) = false := by decide) (he : starEach (.Name n p2 :: []) X.env = (false, eval (.Name n p2) X.env) :: starEach [] X.env := by rfl) (hpl : (backTo pos (starEach [] X.env)).any (·.1) = false := by rfl) :
    DE X B h (.Call (.Name "len" p) [.Name n p2] [] pos) ss (.int (ns.length : Nat)) := fun σ H Q en k => by
  refine wE_of (pe_callB call_len_seq hg hm PySem.boot_len (pa_cons (pe_var hN hv hd hcd) pa_nil he) (he := he) (hpl := hpl)) ?_
  obtain ⟨h1, h2⟩ := en.at_q hi
  refine ⟨_, h1, _, _, rfl, .inl h2, ?_⟩
  rw [List.length_map]
  exact k _ H _ (Kp.refl _) en (.int _) rfl
theorem de_sliceQ (i : Nat) {q : Addr} {ns : List Int} {m : Nat} (hl : ns.length ≤ m) (w : DE X B h b ss (.int (m : Nat))) (hi : ss[i]? = some (.q q ns) := by rfl) (hN : X.N[i]? = some n := by rfl) (hv : Vis X.env.scope n := by first | exact Or.inl rfl | exact Or.inr (Or.inl rfl) | exact Or.inr (Or.inr rfl))
    (hd : (n == ("__debug__" : Str)) = false := by decide) (hcd : (n == ("__classdict__" : Str)) = false := by decide) :
    DE X B h (.Subscript (.Name n p) (.Slice none (some b) none p2) pos) ss (lI ns) := fun σ H Q en k => by
  refine wE_of (pe_slice sl_list (pe_var hN hv hd hcd) po_none (po_some pe_w)) ?_
  obtain ⟨h1, _⟩ := en.at_q hi
  refine ⟨_, h1, ?_⟩
  refine w σ H _ en fun v H1 d k1 e1 dd ed => ?_
  subst ed
  cases dd
  obtain ⟨_, h2⟩ := e1.at_q hi
  refine ⟨_, rfl, _, _, rfl, h2, fun p hp => k _ _ _ (k1.trans (Kp.of (Same.new hp))) (e1.same (Same.new hp)) (Da.newLst e1.dom hp ?_) rfl⟩
  have e : cutV (ns.map V.int) none (some ((m : Nat) : Int)) = ns.map V.int := by
    unfold cutV
    rw [HT.sIx_none, HT.sIx_nat, List.length_map, Nat.min_eq_right hl]
    rw [List.drop_zero, Nat.sub_zero]
    exact List.take_of_length_le (by rw [List.length_map]; exact Nat.le_refl _)
  rw [e]
  exact .of_ints ns
end
def spFt (K : PySem.W.Frag) : Sp := fun vs H Q _ => ∃ (a : Addr) (ns : List Int), vs = [.ref a] ∧ SqL K H a (ns.map V.int) ∧ ns.length ≤ 63 ∧
  ∀ (F G : Addr) (gs : List Int) (st : Int) (H' : Hp), F ≠ G → H' F = some (.lst [.ref G, .int st, .int 0]) → H' G = some (.lst (gs.map V.int)) → 0 ≤ st → st < 18446744073709551616 → Q (.ref F) H'
section
variable {P : Program} {w : World} {K : PySem.W.Frag} {mg : Str → Option Value} {base : Heap} {f : Addr} {fd : FuncData}
theorem En.entryQ {N : List Str} {H : Hp} {a : Addr} {ns : List Int} (hN : 1 ≤ N.length) (hq : SqL K H a (ns.map V.int)) : En K ⟨H, []⟩ [] H (L2.start N [.ref a]) (.q a ns :: List.replicate (N.length - 1) .u) where
  rel := Same.refl _
  dom := fun _ z => absurd z List.not_mem_nil
  mdh := fun _ z => absurd z List.not_mem_nil
  len := by
    rw [start_len (by simpa using hN), List.length_cons, List.length_replicate]
    omega
  sl := fun i y hi => by
    cases i with
    | zero =>
      simp only [List.getElem?_cons_zero, Option.some.injEq] at hi
      subst hi
      exact .inr ⟨.ref a, rfl, rfl, by rw [show (⟨H, []⟩ : Bs).md = [] from rfl, hid_nil]; exact hq⟩
    | succ i =>
      rw [List.getElem?_cons_succ, List.getElem?_replicate] at hi
      split at hi
      · exact .inl (Option.some.inj hi).symm
      · cases hi
  nd := fun i j p ds es hi hj => by
    cases i with
    | zero => simp at hi
    | succ i =>
      rw [List.getElem?_cons_succ, List.getElem?_replicate] at hi
      split at hi <;> cases hi
theorem sc32 : FnScope ["_law_script", "_law_great", "_law_stirred", "_law_cell", "_law_whole"] ["_law_script"] (defScope (top 32)) := ⟨rfl, rfl, rfl, by decide +kernel, rfl, by decide +kernel, by decide +kernel⟩
theorem ok32 (F : Fun K "_law_fount" "_law_fount" (top 32) f fd) (bm : Bi mg) : FnV false P w K mg base CX0 1 f fd ["_law_script"] (spFt K) := by
  refine fnV_of F sc32 (fun vs H Q E ⟨a, ns, e, _⟩ => by rw [e]; rfl) fun cdv A outer s H vs Q E gd hr ⟨a, ns, ev, hq, hz, q⟩ => ?_
  subst ev
  have hN := sc32.nd
  refine ⟨_, pss_w.nox, ?_⟩
  have main : WSs (cxOf CX0 P w K mg base ["_law_script", "_law_great", "_law_stirred", "_law_cell", "_law_whole"] "_law_fount" (defScope (top 32)) f cdv A outer s H E).nox ⟨H, []⟩ [] (defBody (top 32)) [.q a ns, .u, .u, .u, .u] (fun _ => False) (fun _ d => ∃ gs st, d = .list [lI gs, .int st, .int 0] ∧ 0 ≤ st ∧ st < 18446744073709551616) := by
    refine wss_cons (N1 := fun s => ∃ L st, 0 ≤ st ∧ st < 18446744073709551616 ∧ s = [.q a ns, .l L [], .d (.int st), .u, .u]) (ws_parFE 1 2 (Ra := fun x => x = []) (Re := fun d => d = .int (74363 + (ns.length : Nat))) rfl hN wf_nil (de_add de_int (de_lenQ 0 rfl (bm _ (by decide)))) (fun ds e => by rw [e]; rfl) fun p ds d e1 e2 => ⟨p, 74363 + (ns.length : Nat), by omega, by omega, by rw [e1, e2]; rfl⟩) fun s ⟨L, st, h0, h1, e⟩ => ?_
    subst e
    refine wss_cons (N1 := fun s => ∃ gs st, 0 ≤ st ∧ st < 18446744073709551616 ∧ s = [.q a ns, .l L (gs.map .int), .d (.int st), .u, .u]) (ws_forL (P := fun ds => ds = ns.map .int) (T := tName 3) (vs := [3]) 1 (fun ds i s => ∃ (gs : List Int) (st : Int), gs.length ≤ i ∧ 0 ≤ st ∧ st < 18446744073709551616 ∧ s = [.q a ns, .l L (gs.map .int), .d (.int st), .u, .u]) PassesOwn.never rfl rfl (nls_of fun x hx d e => ?nls) (di_list (de_sliceQ 0 (m := 63) hz de_int)) (pg_name hN rfl (Or.inl rfl)) tg_name to_name
      (fun ds i s _ ⟨gs, st, _, _, _, e⟩ => ⟨fun p ⟨k, es, hk⟩ => ?own, gs.map .int, by rw [e]; rfl⟩) (fun ds e => ⟨[], st, Nat.zero_le _, h0, h1, rfl⟩) (fun ds i d s pd hd ⟨gs, st, lg, h0, h1, e⟩ => ?turn) fun ds s pd ⟨gs, st, _, h0, h1, e⟩ => ⟨gs, st, h0, h1, e⟩) fun s ⟨gs, st, h0, h1, e⟩ => ?rest
    case nls =>
      subst e
      rcases List.mem_cons.mp hx with z | hx
      · cases z
      rcases List.mem_cons.mp hx with z | hx
      · cases z
      rcases List.mem_cons.mp hx with z | hx
      · cases z; rfl
      rcases List.mem_cons.mp hx with z | hx
      · cases z
      rcases List.mem_cons.mp hx with z | hx
      · cases z
      cases hx
    case own =>
      subst e
      match k, hk with
      | 0, hk => cases hk
      | 1, hk => cases hk; rfl
      | 2, hk => cases hk
      | 3, hk => cases hk
      | 4, hk => cases hk
      | k + 5, hk => simp at hk
    case turn =>
      subst pd e
      obtain ⟨c, hc, rfl⟩ := map_get hd
      have hi : i < ns.length := (List.getElem?_eq_some_iff.mp hc).1
      refine ⟨⟨_, rfl⟩, fun s' t => ?_⟩
      rw [show s' = [.q a ns, .l L (gs.map .int), .d (.int st), .d (.int c), .u] from t]
      refine wss_wipe [3, 4] ?_
      refine wss_cons (N1 := fun s => ∃ wh, s = [.q a ns, .l L (gs.map .int), .d (.int st), .d (.int c), .d (.int wh)]) (ws_set 4 (Re := fun d => ∃ wh, d = .int wh) (WE.imp (de_if (dt_c (dc_ge (de_var 3) de_int)) (fun _ => de_mul de_int (de_var 3) (.inl ⟨by decide, by decide⟩)) fun _ => de_sub (de_mul (de_neg de_int) (de_var 3) (.inl ⟨by decide, by decide⟩)) de_int) fun d e => by
        rw [e]
        split
        · exact ⟨_, rfl⟩
        · exact ⟨_, rfl⟩) (fun d ⟨wh, e⟩ => ⟨wh, by rw [e]; rfl⟩) hN) fun s ⟨wh, e⟩ => ?_
      subst e
      refine wss_cons (N1 := fun s => ∃ gs' : List Int, gs'.length ≤ i + 1 ∧ s = [.q a ns, .l L (gs'.map .int), .d (.int st), .d (.int c), .d (.int wh)]) (ws_if (dt_c (dc_ge (de_var 4) (de_pow de_int de_int ⟨by decide, by decide, by decide⟩))) (fun _ => wss_one (ws_append 1 rfl (nls_of fun x hx d e => ?_) (de_var 4) (fun d e => by rw [e]; rfl) (by rw [List.length_map]; omega) fun d e => ⟨gs ++ [wh], by rw [List.length_append]; simp; omega, by rw [e, List.map_append]; rfl⟩)) fun _ => wss_nil ⟨gs, by omega, rfl⟩) fun s ⟨gs', lg', e⟩ => ?_
      · subst e
        rcases List.mem_cons.mp hx with z | hx
        · cases z
        rcases List.mem_cons.mp hx with z | hx
        · cases z
        rcases List.mem_cons.mp hx with z | hx
        · cases z; rfl
        rcases List.mem_cons.mp hx with z | hx
        · cases z; rfl
        rcases List.mem_cons.mp hx with z | hx
        · cases z; rfl
        cases hx
      subst e
      refine wss_one (ws_set 2 (de_modN (de_toInt rfl (bm _ (by decide)) (de_add (de_add (de_mul (de_var 2) de_int (.inr ⟨by decide, by decide⟩)) (de_var 4)) de_int)) de_int (by decide)) (fun d e => ⟨gs', (st * 1103515245 + wh + 12345).fmod 18446744073709551557, lg', (fmod_st _).1, (fmod_st _).2, by rw [e]; rfl⟩) hN)
    case rest =>
      subst e
      exact wss_one (ws_ret (de_lst (da_cons (de_varL 1) (da_cons (de_var 2) (da_cons de_int wa_nil)))) fun d e => ⟨gs, st, e, h0, h1⟩)
  refine main _ H _ (En.entryQ (by decide) hq) (fun _ _ _ _ _ z => z.elim) fun v σ' H' s' d _ en dv ⟨gs, st, ed, h0, h1⟩ => ?_
  subst ed
  rw [hid_nil] at dv
  cases dv with
  | lst e1 r1 =>
    cases r1 with
    | cons v1 r1 =>
      cases r1 with
      | cons v2 r1 =>
        cases r1 with
        | cons v3 r1 =>
          cases r1
          cases v2
          cases v3
          unfold lI at v1
          cases v1 with
          | lst e2 r2 =>
            have := r2.ints
            subst this
            refine q _ _ gs st H' (fun z => ?_) e1 e2 h0 h1
            rw [z, e2] at e1
            cases gs with
            | nil => cases e1
            | cons g gs => cases e1
end
end F26

/-! the own error Cross: made, raised, read -/
namespace PySem
namespace CroX
open PySem.W PySem.Calls PyProof.Rows PySem.HandSPX
/-! ### the text of __init__ -/
def iA (p1 p2 : Pos) : Arguments := { posonlyargs := [], args := [{ arg := "self", annotation := none, pos := p1 }, { arg := "pair", annotation := none, pos := p2 }], vararg := none, kwonlyargs := [], kw_defaults := [], kwarg := none, defaults := [] }
def iB (q1 q2 q3 q4 : Pos) : List Stmt := [.Assign [.Attribute (.Name "self" q1) "pair" q2] (.Name "pair" q3) q4]
def iS : Scope := { kind := .function, names := [(PySem.Str.ofString "self", .local), (PySem.Str.ofString "pair", .local)], isGenerator := false, isCoroutine := false, more := [] }
/-- what the written part says of Cross, at C, and of its __init__, at fI -/
structure CroTxt (K : Frag) (mg : Str → Option Value) (C fI : Addr) : Prop where
  gC : mg "Cross" = some (.ref C)
  cls : ∃ nm q N bs bm sn sub ab col dd k0 k1 k2 k3 k5, K.lookup C = some (excClassObj nm q C N bs bm true sn sub ab col dd k0 k1 k2 k3 k5 "ValueError.__new__") ∧ refsVE bm = true
  sa : findIn K (.ref C) "__setattr__" = some (some (.builtin "object.__setattr__"))
  ga : findIn K (.ref C) "__getattribute__" = some (some (.builtin "BaseException.__getattribute__"))
  gg : findIn K (.ref C) "__getattr__" = some none
  noN : findIn K (.ref C) "pair" = some none
  iC : findIn K (.ref C) "__init__" = some (some (.ref fI))
  tC : typeIn K (.ref fI) = some (.type "function")
  kC : keepIn K (.ref C) = true
  exC : subIn K (.ref C) (.type "BaseException") = some true
  tyC : typeIn K (.ref C) = some (.type "type")
  hdC : hasDictIn K C = true
  te : exmOne K (.ref C) (.ref C) = some true
  fn : ∃ (oc : Value) (od : Option Addr) (doc pm : Value) (an : Option Addr) (cdv ct : Value) (osl : Array (Option Value)) (p1 p2 q1 q2 q3 q4 : Pos),
    K.lookup fI = some ⟨oc, od, .func (fnOf "__init__" "Cross.__init__" (iA p1 p2) (iB q1 q2 q3 q4) iS .none .none doc pm an cdv ct), osl⟩ ∧ codeIn K cdv "Cross.__init__" = true
theorem one_size (v : Value) : [v].length ≤ sizeLine := by
  rw [sizeLine_eq]
  exact (by decide : 1 ≤ 16777216)
theorem kept_but {K : Frag} {h h' : Heap} {x : Addr} (X : K.In h) (hx : K.lookup x = none) (k : ∀ b o, b ≠ x → h.get? b = some o → h'.get? b = some o) : K.In h' := fun a o e =>
  k a o (fun z => by rw [z, hx] at e; cases e) (X a o e)
theorem ldC {M : Model} {s : Shared} {name : Str} {scope : Scope} {L a : Addr} {cd : Value} {m : Str → Option Value} {x : Str} {pos : Pos} {v : Value} {Q : Value → Shared → Prop} {A : Around} {E : Value → Shared → Prop} (hn : s.heap.Ns L m) (hv : m x = some v) (h : Q v s)
    (hk : scope.kind = .function := by rfl) (hl : (envOfC name scope L a cd).kindOf x = some .local := by rfl) (hd : (x == ("__debug__" : Str)) = false := by decide) :
    wpAny M A (eval (.Name x pos) (envOfC name scope L a cd)) Q E s := wpAny_Name (wpAny_loadName_local hk hl hn hv h) hd
/-- what __init__ leaves of a fresh exception at x -/
structure InitEnd (h h' : Heap) (x C dx t1 : Addr) (v : Value) : Prop where
  keep : ∀ b o, b ≠ x → h.get? b = some o → h'.get? b = some o
  obj : h'.get? x = some { cls := .ref C, dict := some dx, data := .fields #[.ref t1, .none, .none, .none, .bool false, .none] }
  dbig : h.objs.size ≤ dx
  dne : dx ≠ x
  ns : h'.Ns1 dx (fun y => if y = "pair" then some v else none)
/-- a made Cross -/
structure OwnMade (h h' : Heap) (e C d : Addr) (v : Value) : Prop where
  keep : ∀ b o, h.get? b = some o → h'.get? b = some o
  new : h.objs.size ≤ e
  obj : ∃ oe vs, h'.get? e = some oe ∧ oe.cls = .ref C ∧ oe.dict = some d ∧ oe.data = .fields vs ∧ vs[1]? = some .none
  dbig : h.objs.size ≤ d
  dne : d ≠ e
  ns : h'.Ns1 d (fun y => if y = "pair" then some v else none)
section
variable {prog : Program} {w : World} {A : Around} {E : Value → Shared → Prop} {R : Result → Shared → Prop} {s : Shared} {K : Frag} {mg : Str → Option Value} {C fI : Addr}
theorem cro_init (T : CroTxt K mg C fI) {x t0 : Addr} {v : Value} (X : K.In s.heap) (hlim : s.heap.NoLimit) (hx : s.heap.get? x = some (excO C t0)) (hnx : K.lookup x = none) (hroom : A.depth < recursionLimit)
    (hq : ∀ h' tk dx, InitEnd s.heap h' x C dx t0 v → R (.ok (.ret .none)) { s with heap := h', toks := tk }) :
    codeAny (model prog w) A (.call (.ref fI) ⟨[.ref x, v], []⟩) R s := by
  obtain ⟨oc, od, doc, pm, an, cdv, ct, osl, p1, p2, q1, q2, q3, q4, ho, hcd⟩ := T.fn
  obtain ⟨nm, q, N, bs, bm, sn, sub, ab, col, dd, k0, k1, k2, k3, k5, hC, hbm⟩ := T.cls
  have hcl : clsIn K C = some { name := nm, bases := bs, mro := .ref C :: bm, ns := N, qualname := q, hasDict := true, slotNames := sn, subclasses := sub, abstract := ab, collection := col, hasDel := false } := by unfold clsIn; rw [hC] <;> rfl
  refine Att.call_fn (binds := [("self", .ref x), ("pair", v)]) X hlim ho hcd hroom (BindsTo.of_eq (by first | rfl | with_unfolding_all rfl)) (by first | rfl | decide | with_unfolding_all rfl) (fun s₁ IC => ?_) rfl rfl rfl
  obtain ⟨h₁, tk₁, rfl⟩ := IC.toInCall.same
  have k : ∀ b o, s.heap.get? b = some o → h₁.get? b = some o := IC.toInCall.keep
  have hn := IC.toInCall.ns
  have hxL : s.heap.objs.size ≠ x := Nat.ne_of_gt (Heap.lt_size hx)
  have X₁ : K.In h₁ := X.keeps k
  have hx₁ := k _ _ hx
  -- self.pair = pair
  show wpAny _ _ (execs _ _) _ _ _
  refine wpAny_execs_cons (plainObj_wpAny_Assign_Attribute ?_)
  refine ldC (v := v) hn (by first | rfl | with_unfolding_all rfl | kernel_rfl) (ldC (v := .ref x) hn (by first | rfl | with_unfolding_all rfl | kernel_rfl) ?_)
  refine set_plain X₁ (ox := excO C t0) (od := none) ⟨hx₁, rfl, rfl, trivial⟩ T.sa ?_
  refine exc_osa X₁ hx₁ hcl (show refsVE (.ref C :: bm) = true from hbm) rfl T.noN (fun h₃ tk₃ dx k₃ dn dne hx₃ hn₃ => ?_)
  show wpAny _ _ (execs _ _) _ _ _
  have z : s.heap.objs.size < h₁.objs.size := hn.lt
  exact wpAny_execs_nil (hq h₃ tk₃ dx ⟨fun b o hb e => k₃ b o hb (k b o e), hx₃, Nat.le_of_lt (Nat.lt_of_lt_of_le z dn), dne, hn₃⟩)
theorem cro_made (T : CroTxt K mg C fI) {v : Value} (X : K.In s.heap) (hlim : s.heap.NoLimit) (hroom : A.depth + 1 < recursionLimit)
    (hq : ∀ h' tk e d, OwnMade s.heap h' e C d v → R (.ok (.ret (.ref e))) { s with heap := h', toks := tk }) :
    codeAny (model prog w) A (.call (.ref C) ⟨[v], []⟩) R s := by
  obtain ⟨nm, q, N, bs, bm, sn, sub, ab, col, dd, k0, k1, k2, k3, k5, hC, hbm⟩ := T.cls
  obtain ⟨hp, g, dr, tk, os⟩ := s
  have k : ∀ b o, hp.get? b = some o → ((hp.push (kdv_tup [v])).push (excO C hp.objs.size)).get? b = some o := fun b o e => Heap.get?_push_of_some _ (Heap.get?_push_of_some _ e)
  have hget : ((hp.push (kdv_tup [v])).push (excO C hp.objs.size)).get? (hp.objs.size + 1) = some (excO C hp.objs.size) := by heap_get
  have hnx : K.lookup (hp.objs.size + 1) = none := by
    cases e : K.lookup (hp.objs.size + 1) with
    | none => rfl
    | some o =>
      have z : hp.get? (hp.objs.size + 1) = some o := X _ _ e
      exact absurd (Nat.lt_of_succ_lt (Heap.lt_size z)) (Nat.lt_irrefl _)
  refine call_own F.excBase_ValueError (fun X => refsVE_contains X bm hbm) (X _ _ hC) (looks_findIn X T.iC) (fun self => bind_fn X self T.tC) (one_size v) ?_
  refine cro_init (s := ⟨(hp.push (kdv_tup [v])).push (excO C hp.objs.size), g, dr, tk, os⟩) T (X.keeps k) (hlim.keeps k) hget hnx ?_ fun h' tk' dx ⟨k', hx, dn, dne, hns⟩ => ?_
  · show A.depth + 1 < recursionLimit
    exact hroom
  · have old : ∀ b o, hp.get? b = some o → h'.get? b = some o := fun b o e => k' b o (Nat.ne_of_lt (Nat.lt_succ_of_lt (Heap.lt_size e))) (k b o e)
    have z : hp.objs.size + 1 + 1 ≤ dx := by
      first
        | (simpa only [Heap.size_push] using dn)
        | exact dn
        | (have q := dn; rw [Heap.size_push, Heap.size_push] at q; exact q)
    exact ⟨rfl, hq h' tk' (hp.objs.size + 1) dx ⟨old, Nat.le_succ _, ⟨_, _, hx, rfl, rfl, rfl, rfl⟩, Nat.le_trans (Nat.le_trans (Nat.le_succ _) (Nat.le_succ _)) z, dne, hns⟩⟩
end
end CroX
end PySem
namespace L2
open PySem PySem.Spec PyProof.Rows
theorem relO_cro {v : V} {v' : Value} (r : RelV v v') (f : Str) : RelO (List.lookup f [(("pair" : Str), v)]) (if f = "pair" then some v' else none) := by
  by_cases hw : f = "pair"
  · subst hw
    rw [if_pos rfl]
    have q : List.lookup ("pair" : Str) [(("pair" : Str), v)] = some v := by simp [List.lookup]
    rw [q]
    exact r
  · rw [if_neg hw]
    have qw : (f == ("pair" : Str)) = false := by simpa using hw
    have q2 : List.lookup f [(("pair" : Str), v)] = none := by simp [List.lookup, qw]
    rw [q2]
    trivial
section
variable {X : Cx} {C fI : Addr}
/-- Cross(e) -/
def tMkCro (C : Addr) (ta : TA) : St → Hp → XK → Prop := fun σ H Q => ta σ H fun vs H1 => ∃ v, vs = [v] ∧ ∀ d, H1 d = none → Q (.ref C) (some d) (upd H1 d (.xd [(("pair" : Str), v)]))
theorem pmk_cro {a : Expr} {ta : TA} {p pos : Pos} {k : Nat} (T : PySem.CroX.CroTxt X.K X.mg C fI) (hr : Room k X.A) (ha : PA X [a] ta) (hg : Gl X "Cross" := by rfl)
    (he : starEach (a :: []) X.env = (false, eval a X.env) :: starEach [] X.env := by rfl) (hpl : (backTo pos (starEach [] X.env)).any (·.1) = false := by rfl) :
    PMk X (.Call (.Name "Cross" p) [a] [] pos) (tMkCro C ta) := by
  intro pins s σ H Q I h
  refine wpAny_Call_Name_kw (ld_glob I hg T.gC ?_)
  refine PySem.W.callWith_K (h₀ := X.base) I.ok.mod.kin T.kC (thn (ha.run pos pins s σ H _ I h) fun us s1 hh => ?_) he hpl
  obtain ⟨vs, H1, I1, r1, v, ev, q1⟩ := hh
  subst ev
  refine ⟨I1.kIn, ?_⟩
  cases r1 with
  | cons rv rn =>
    rename_i v' us'
    cases rn
    show wpAny _ _ (call (.ref C) [v']) _ _ _
    have hlim := I1.nolimit
    obtain ⟨hp, g, dr, tk, os⟩ := s1
    refine wpAny_call (PySem.CroX.cro_made T I1.kIn hlim (by have := hr.dp; omega) fun h' tk' e d M => ?_)
    show MkP X pins σ Q (.ref e) ⟨h', g, dr, tk', os⟩
    obtain ⟨oe, fv, hoe, hc, hd, hdat, h1⟩ := M.obj
    have hns := M.ns
    obtain ⟨G', g1, g2⟩ := restrict h' fun b => decide (b ≠ e)
    have gk : ∀ b, b ≠ e → G'.get? b = h'.get? b := fun b hb => g1 b (decide_eq_true hb)
    have ge : G'.get? e = none := g2 e (by simp)
    have old : ∀ b o, hp.get? b = some o → G'.get? b = some o := fun b o q => (gk b (Nat.ne_of_lt (Nat.lt_of_lt_of_le (Heap.lt_size q) M.new))).trans (M.keep b o q)
    have ob : ObjOk X.prog X.w (upd H1 d (.xd [(("pair" : Str), v)])) G' d (.xd [(("pair" : Str), v)]) :=
      ⟨_, hns.at (fun o q => (gk d M.dne).trans q), fun f => relO_cro rv f⟩
    have J : Inv X pins σ (upd H1 d (.xd [(("pair" : Str), v)])) ⟨G', g, dr, tk', os⟩ := I1.laid (t' := tk') old M.dbig ob
    refine ⟨e, oe, fv, ⟨G', g, dr, tk', os⟩, _, .ref C, some d, rfl, J, fun b o q => ?_, ge, hoe, ⟨hc, hd⟩, hdat, h1, ?_, rfl, I1.bare, raises_own T.exC T.tyC, q1 d (I1.hok.fresh M.dbig)⟩
    · by_cases hb : b = e
      · have q' : G'.get? b = some o := q
        rw [hb, ge] at q'; cases q'
      · exact (gk b hb).symm.trans q
    · rw [upd_ne (Ne.symm M.dne)]
      exact I1.hok.fresh M.new
/-- raise Cross(e) -/
def tRaiseCro (C : Addr) (W : WX) (ta : TA) : TS := fun _ σ H => tMkCro C ta σ H fun cls d H' => W cls d σ H'
theorem ps_raiseCro {a : Expr} {ta : TA} {W : WX} {p pos pos2 : Pos} {k : Nat} (hc : X.calm = true) (T : PySem.CroX.CroTxt X.K X.mg C fI) (hr : Room k X.A) (tk : Takes X W) (ha : PA X [a] ta) (hg : Gl X "Cross" := by rfl)
    (he : starEach (a :: []) X.env = (false, eval a X.env) :: starEach [] X.env := by rfl) (hpl : (backTo pos (starEach [] X.env)).any (·.1) = false := by rfl) :
    PS X (.Raise (some (.Call (.Name "Cross" p) [a] [] pos)) none pos2) (tRaiseCro C W ta) := ps_raise hc tk (pmk_cro T hr ha hg he hpl)
/-- error.pair, low the exception that the suite holds (at a; its class cls, its dict d) -/
def tByCro (C : Addr) (a : Addr) (cls : Value) (d : Option Addr) (te : TE) : TE := fun σ H Q => te σ H fun x H1 => x = .ref a ∧ cls = .ref C ∧ ∃ (dd : Addr) (v : V), d = some dd ∧ H1 dd = some (.xd [(("pair" : Str), v)]) ∧ Q v H1
theorem pe_byCro {a : Addr} {oe : Obj} {cls : Value} {d : Option Addr} {pn : List (Addr × Obj)} {e : Expr} {te : TE} {pos : Pos} (T : PySem.CroX.CroTxt X.K X.mg C fI) (hz : Zc cls d oe) (hf : ∃ vs, oe.data = .fields vs) (he : PE (X.suite a ((a, oe) :: pn)) e te)
    (hb : attributeBase e "pair" X.env (eval e X.env) = eval e X.env := by rfl) :
    PE (X.suite a ((a, oe) :: pn)) (.Attribute e "pair" pos) (tByCro C a cls d te) := by
  refine ⟨fun pins s σ H Q I h => ?_⟩
  refine attr_of hb (thn (he.run pins s σ H _ I h) fun u s1 hh => ?_)
  obtain ⟨x, H1, I1, rx, ex, ec, dd, v, ed, ea, q⟩ := hh
  subst ex
  obtain rfl : u = Value.ref a := rx
  subst ec
  subst ed
  obtain ⟨ha, _⟩ := I1.pin (a, oe) (List.mem_append_left _ List.mem_cons_self)
  obtain ⟨vs, hd⟩ := hf
  have hx : ObjOk X.prog X.w H1 s1.heap dd (.xd [(("pair" : Str), v)]) := I1.hok dd _ ea
  obtain ⟨mA, hns, hr⟩ := hx
  obtain ⟨od, ho, hl⟩ := lookIn_ns hns
  have l : List.lookup ("pair" : Str) [(("pair" : Str), v)] = some v := by simp [List.lookup]
  obtain ⟨u, hu, ru⟩ := RelO.some_of (v := v) (o := mA "pair") (by rw [← l]; exact hr "pair")
  have J : PySem.W.InstAt s1.heap a oe C (some od) := ⟨ha, hz.1, by unfold PySem.W.notCls; rw [hd] <;> rfl, by rw [hz.2]; exact ho⟩
  exact HandSPX.exc_get I1.kIn J T.ga T.gg T.exC (PySem.W.findObj_own T.hdC T.noN rfl (by rw [hl, hu])) (handed_of ru) ⟨v, H1, I1.tok _, ru, q⟩
end
end L2


/-! walks: web_of, joined -/
namespace F26
open PySem PySem.Spec L2

section
variable {X : Cx} {B : Bs} {h : List Addr} {ss : List Sl} {a : Expr} {p pos pos2 : Pos} {C fI : Addr} {E : XK} {N : List Sl → Prop} {R : List Sl → PyData → Prop} {Re : PyData → Prop} {k : Nat}
/-- raise Cross(e) -/
theorem ws_raise (hc : X.calm = true) (T : PySem.CroX.CroTxt X.K X.mg C fI) (hr : Room k X.A) (tk : Takes X (fun cls d _ H => E cls d H)) (w : WE X B h a ss Re)
    (hE : ∀ (σ : L2.St) (H : Hp) (v : V) (d : PyData) (dd : Addr), En X.K B h H σ ss → Da (hid h H) v d → Re d → H dd = none → E (.ref C) (some dd) (upd H dd (.xd [(("pair" : Str), v)]))) (hg : Gl X "Cross" := by rfl)
    (he : starEach (a :: []) X.env = (false, eval a X.env) :: starEach [] X.env := by rfl) (hpl : (backTo pos (starEach [] X.env)).any (·.1) = false := by rfl) :
    WS X B h (.Raise (some (.Call (.Name "Cross" p) [a] [] pos)) none pos2) ss N R := fun σ H D en _ _ =>
  wS_of (L2.ps_raiseCro hc T hr tk pa_w hg he hpl) (wa_one w he σ H _ en fun vs H1 ds kp e1 dd ⟨d, ed, rd⟩ => by
    subst ed
    cases dd with
    | cons dv r =>
      cases r
      exact ⟨_, rfl, fun dd hd => hE σ H1 _ d dd e1 dv rd hd⟩)
end
def halvOk (n : Nat) (k : List Int) : Prop := ∃ x r, k = x :: r ∧ x ≠ 0 ∧ 1 ≤ r.length ∧ r.length + 3 ≤ n ∧ small k
/-- the first crossing pair, or none -/
def pmJ : List PyData → (PyData → Prop) → Prop := fun ds R => ∃ (n : Nat) (ks : List (List Int)), ds = [.int (n : Int), lTs ks] ∧ ks.length ≤ 100 ∧ n ≤ 100 ∧ (∀ k ∈ ks, halvOk n k) ∧
  (∀ i j x y, FirstX ((inOrd ks).map bitsOf) i j → (inOrd ks)[i]? = some x → (inOrd ks)[j]? = some y → R (.list [.str "cross", .tuple [tI x, tI y]])) ∧ (AllGo ((inOrd ks).map bitsOf) → R (.list [.str "web", netT n (inOrd ks)]))
def spWeb (C : Addr) : Sp := fun vs H Q E => ∃ (h : List Addr) (n : Nat) (ks : List (List Int)), (∀ q ∈ h, IsL H q) ∧ DaL (hid h H) vs [.int (n : Int), tTs ks] ∧ ks.length ≤ 100 ∧ n ≤ 100 ∧ (∀ k ∈ ks, halvOk n k) ∧
  (∀ i j x y, FirstX ((inOrd ks).map bitsOf) i j → (inOrd ks)[i]? = some x → (inOrd ks)[j]? = some y → ∀ (H1 : Hp) (v : V) (dd : Addr), Same H H1 → Da (hid h H1) v (.tuple [tI x, tI y]) → H1 dd = none → E (.ref C) (some dd) (upd H1 dd (.xd [(("pair" : Str), v)]))) ∧
  (AllGo ((inOrd ks).map bitsOf) → ∀ v H', Same H H' → Da (hid h H') v (netT n (inOrd ks)) → Q v H')
theorem inOrd_len {ks : List (List Int)} : (inOrd ks).length ≤ ks.length := by
  unfold inOrd
  rw [List.length_mergeSort]
  exact ddK_len ks
section
variable {P : Program} {w : World} {K : PySem.W.Frag} {mg : Str → Option Value} {base : Heap} {f : Addr} {fd : FuncData} {C fI : Addr}
theorem sc14 : FnScope ["size", "lots", "parted", "halvings", "pair", "lot", "halving"] ["size", "lots"] (defScope (top 14)) := ⟨rfl, rfl, rfl, by decide +kernel, rfl, by decide +kernel, by decide +kernel⟩
theorem halv_len {n : Nat} {k : List Int} (h : halvOk n k) (hn : n ≤ 100) : k.length ≤ 100 := by
  obtain ⟨x, r, e, _, _, h2, _⟩ := h
  rw [e, List.length_cons]
  omega
theorem ok14 (F : Fun K "web_of" "web_of" (top 14) f fd) (T : PySem.CroX.CroTxt K mg C fI) (c10 : Cl false P w K mg base 1 "halving_of" (spP pmHalf)) (c8 : Cl false P w K mg base 4 "in_order" (spP pmOrd)) (c13 : Cl false P w K mg base 2 "first_cross" (spP pmFC)) : FnOk P w K mg base (L2.CX P w) 6 f fd ["size", "lots"] (spWeb C) := by
  refine F.okX sc14 (fun vs H Q E ⟨h, n, ks, _, dd, _⟩ => by rw [dd.length]; rfl) fun cdv A outer s H vs Q E hr ⟨h, n, ks, dom, dd, hz, hn, hk, hE, hQ⟩ => ⟨_, pss_w, ?_⟩
  have hN := sc14.nd
  have oz := inOrd_len (ks := ks)
  have om : ∀ k ∈ inOrd ks, halvOk n k := fun k hk' => hk k (mem_inOrd.mp hk')
  have main : WSs (cxOf (L2.CX P w) P w K mg base ["size", "lots", "parted", "halvings", "pair", "lot", "halving"] "web_of" (defScope (top 14)) f cdv A outer s H E) ⟨H, []⟩ h (defBody (top 14)) (ent ["size", "lots", "parted", "halvings", "pair", "lot", "halving"] [.int (n : Int), tTs ks]) (fun _ => False) (fun _ d => AllGo ((inOrd ks).map bitsOf) ∧ d = netT n (inOrd ks)) := by
    refine wss_cons (N1 := fun s => s = [.d (.int (n : Int)), .d (tTs ks), .d (lTs ks), .u, .u, .u, .u]) (ws_lcN (as := ks) (enc := tI) (out := tI) (p := fun _ => true) 2 5 rfl hN (di_tup (de_var 1)) (blkOk_by rfl) (fun a ha D s H C cl fp => rfl)
      (fun k hk' _ D s H C cl fp => we_call c10 hr (by decide) rfl (da_cons (de_var 0) (da_cons (de_var 5) wa_nil)) fun ds e => ?_) (by omega) ?_) fun s e => ?_
    · obtain ⟨x, r, ek, hx, h1, h2, _⟩ := hk k hk'
      exact ⟨n, x, r, by rw [e, ek], hx, h1, by omega, by rw [ek]⟩
    · rw [filt_true]
      rfl
    subst e
    refine wss_cons (N1 := fun s => s = [.d (.int (n : Int)), .d (tTs ks), .d (lTs ks), .d (tTs (inOrd ks)), .u, .u, .u]) (ws_set 3 (we_call (R := fun x => x = tTs (inOrd ks)) c8 hr (by decide) rfl (da_cons (WE.eq (de_lcF (as := ks) (enc := tI) (out := tI) (p := fun _ => true) 6 rfl hN (di_list (de_var 2)) (blkOk_by rfl) (fun a ha D s H C cl fp => WT.eq (dt_c (dc_notN (de_var 6))) rfl) (fun a ha _ D s H C cl fp => de_var 6) (by omega)) (by rw [filt_true]; rfl)) wa_nil) fun ds e => ⟨ks, e, ⟨by omega, fun k hk' => by have := halv_len (hk k hk') hn; omega⟩, rfl⟩) (fun d e => by rw [e]; rfl) hN) fun s e => ?_
    subst e
    refine wss_cons (N1 := fun s => ∃ d, ((d = .none ∧ AllGo ((inOrd ks).map bitsOf)) ∨ ∃ i j, FirstX ((inOrd ks).map bitsOf) i j ∧ d = .tuple [.int (i : Nat), .int (j : Nat)]) ∧ s = [.d (.int (n : Int)), .d (tTs ks), .d (lTs ks), .d (tTs (inOrd ks)), .d d, .u, .u]) (ws_set 4 (we_call (R := fun d => (d = .none ∧ AllGo ((inOrd ks).map bitsOf)) ∨ ∃ i j, FirstX ((inOrd ks).map bitsOf) i j ∧ d = .tuple [.int (i : Nat), .int (j : Nat)]) c13 hr (by decide) rfl (da_cons (de_var 3) wa_nil) fun ds e => ⟨_, e, by omega, fun k hk' => (om k hk').choose_spec.choose_spec.2.2.2.2, fun i j fx => .inr ⟨i, j, fx, rfl⟩, fun ag => .inl ⟨rfl, ag⟩⟩) (fun d hd => ⟨d, hd, rfl⟩) hN) fun s ⟨d, hd, e⟩ => ?_
    subst e
    rcases hd with ⟨rfl, ag⟩ | ⟨i, j, fx, rfl⟩
    · refine wss_cons (N1 := fun s => s = [.d (.int (n : Int)), .d (tTs ks), .d (lTs ks), .d (tTs (inOrd ks)), .d .none, .u, .u]) (ws_if (dt_c (dc_notN (de_var 4))) (fun e => by cases e) fun _ => wss_nil rfl) fun s e => ?_
      subst e
      exact wss_one (ws_ret (de_tup (da_cons (de_var 0) (da_cons (de_var 3) wa_nil))) fun d e => ⟨ag, by rw [e]; rfl⟩)
    · obtain ⟨x', y', hx', hy', _⟩ := fx.2.2
      have li := (List.getElem?_eq_some_iff.mp hx').1
      have lj := (List.getElem?_eq_some_iff.mp hy').1
      rw [List.length_map] at li lj
      obtain ⟨x, hx⟩ : ∃ x, (inOrd ks)[i]? = some x := ⟨_, List.getElem?_eq_getElem li⟩
      obtain ⟨y, hy⟩ : ∃ y, (inOrd ks)[j]? = some y := ⟨_, List.getElem?_eq_getElem lj⟩
      refine wss_cons (N1 := fun _ => False) (ws_if (dt_c (dc_notN (de_var 4))) (fun _ => wss_one (ws_raise (E := E) (Re := fun d => d = .tuple [tI x, tI y]) rfl T hr (takes_of rfl rfl rfl rfl) (de_tup (da_cons (de_ix (n := i) isq_t (de_var 3) (de_ix (n := 0) (d := .int (i : Nat)) isq_t (de_var 4) de_int rfl rfl) rfl (mget hx)) (da_cons (de_ix (n := j) isq_t (de_var 3) (de_ix (n := 1) (d := .int (j : Nat)) isq_t (de_var 4) de_int rfl rfl) rfl (mget hy)) wa_nil))) fun σ H1 v d dd en dv ed hd => ?_)) fun e => by cases e) fun s e => e.elim
      subst ed
      have s1 : Same H H1 := by
        have := en.rel
        rw [show (⟨H, []⟩ : Bs).md = [] from rfl, hid_nil, hid_nil] at this
        exact this
      exact hE i j x y fx hx hy H1 v dd s1 dv hd
  refine main _ H _ (En.entry dom dd (by show 2 ≤ 7; decide)) (fun _ _ _ _ _ z => z.elim) fun v σ' H' s' d _ en dv ⟨ag, ed⟩ => ?_
  subst ed
  have s1 : Same H H' := by
    have := en.rel
    rw [show (⟨H, []⟩ : Bs).md = [] from rfl, hid_nil, hid_nil] at this
    exact this
  exact hQ ag v H' s1 dv
def tjTup (K : PySem.W.Frag) : List V → Hp → VK → Prop := fun xs H Q => ∃ p ys, xs = [V.ref p] ∧ ((SqL K H p ys ∧ ∀ l, H l = none → Q (.ref l) (upd H l (.tup ys))) ∨ (SqT K H p ys ∧ Q (.ref p) H))
def tjB (K : PySem.W.Frag) (C : Addr) (W : WX) : TS := tRet (tLst (tCons (tC (.str "web")) (tCons (tCallS (spWeb C) (L2.WE W) (tCons (tVar 0) (tCons (tCB (tjTup K) (tCons (tVar 1) tNil)) tNil))) tNil)))
def tjS (C : Addr) (a : Addr) (cls : Value) (d : Option Addr) : TS := tRet (tLst (tCons (tC (.str "cross")) (tCons (L2.tByCro C a cls d (tVar 2)) tNil)))
def tJ (K : PySem.W.Frag) (C : Addr) : TS := fun D σ H => tjB K C (wAs K (.ref C) 2 (tjS C) (fun _ _ _ _ => False) D) D σ H
theorem sc45 : FnScope ["_law_wide", "_law_given", "error"] ["_law_wide", "_law_given"] (defScope (top 45)) := ⟨rfl, rfl, rfl, by decide +kernel, rfl, by decide +kernel, by decide +kernel⟩
theorem ok45 (F : Fun K "_law_joined" "_law_joined" (top 45) f fd) (bm : Bi mg) (T : PySem.CroX.CroTxt K mg C fI) {fW : Addr} {fdW : FuncData} (GW : FnOk P w K mg base (L2.CX P w) 6 fW fdW ["size", "lots"] (spWeb C)) (mW : mg "web_of" = some (.ref fW)) (kW : PySem.W.keepIn K (.ref fW) = true) (bW : Binds K fdW ["size", "lots"] []) : FnV false P w K mg base CX0 7 f fd ["_law_wide", "_law_given"] (spP pmJ) := by
  refine fnV_of F sc45 (fun vs H Q E ⟨h, ds, R, _, dd, ⟨_, _, e, _⟩, _⟩ => by rw [dd.length, e]; rfl) fun cdv A outer s H vs Q E gd hr ⟨h, ds, R, dom, dd, ⟨n, ks, ed, hz, hn, hk, hR, hR0⟩, q⟩ => ?_
  subst ed
  have hN := sc45.nd
  refine ⟨tJ K C, PSs.nox (X := cxOf CX0 P w K mg base ["_law_wide", "_law_given", "error"] "_law_joined" (defScope (top 45)) f cdv A outer s H E) ?rd, ?go⟩
  case rd =>
    refine pss_one (ps_try_as (X := (cxOf CX0 P w K mg base ["_law_wide", "_law_given", "error"] "_law_joined" (defScope (top 45)) f cdv A outer s H E).nox) (x := "Cross") (n := "error") (i := 2) (c := .ref C) (tb := tjB K C) (ts := tjS C) (Wout := fun _ _ _ _ => False) rfl rfl hN rfl rfl ⟨rfl, by decide, Or.inl T.gC⟩ takes0
      (fun W pn xe tk _ => ?_) (fun a oe cls d pn hz hf => ?_))
    · exact pss_one (ps_ret (pe_lst (pa_cons pe_str (pa_cons (by exact (pe_callS GW hr rfl mW kW bW (fun σ => passAt tk σ) (pa_cons (pv 0) (pa_cons (pe_callTy call_tuple_of rfl (bm _ (by decide)) (by decide +kernel) (pa_cons (pv 1) pa_nil)) pa_nil)))) pa_nil))))
    · exact pss_one (ps_ret (pe_lst (pa_cons pe_str (pa_cons (by exact (L2.pe_byCro T hz hf (pv 2))) pa_nil))))
  case go =>
    cases dd with
    | cons d1 dd =>
    cases dd with
    | cons d2 dd =>
    cases dd
    cases d1
    unfold lTs at d2
    cases d2 with
    | lst e2 r2 =>
    refine ⟨_, rfl, _, rfl, _, _, rfl, .inl ⟨SqL.of (hid_some.mp e2).2, fun l hl => ?_⟩⟩
    rename_i ad xs hyp0
    have s1 : Same H (upd H l (.tup xs)) := Same.new hl
    refine ⟨h, n, ks, fun q hq => (dom q hq).same s1, .cons (.int _) (.cons (Da.newTup dom hl r2) .nil), hz, hn, hk, fun i j x y fx hx hy H1 v dd s2 dv hd => ?_, fun ag v H' s2 dv => ?_⟩
    · refine ⟨true, T.te, fun _ a0 _ => ?_, fun q => Bool.noConfusion q⟩
      refine ⟨_, rfl, rfl, rfl, dd, v, rfl, upd_same, by show 2 ≤ sizeLine; decide, fun p hp => ?_⟩
      have s3 : Same H1 (upd H1 dd (.xd [(("pair" : Str), v)])) := Same.new hd
      have dom3 : ∀ q ∈ h, IsL (upd H1 dd (.xd [(("pair" : Str), v)])) q := fun q hq => ((dom q hq).same (s1.trans s2)).same s3
      exact q _ _ _ (((s1.trans s2).trans s3).trans (Same.new hp)) (Da.newLst dom3 hp (.cons (.str _) (.cons (dv.mono (hid_same s3)) .nil))) (hR i j x y fx hx hy)
    · refine ⟨by show 2 ≤ sizeLine; decide, fun p hp => ?_⟩
      exact q _ _ _ ((s1.trans s2).trans (Same.new hp)) (Da.newLst (fun q hq => (dom q hq).same (s1.trans s2)) hp (.cons (.str _) (.cons dv .nil))) (hR0 ag)
end
end F26

/-! walk: by both -/
namespace F26
open PySem PySem.Spec L2

def uni (A B : List Nat) : List Nat := A ++ B.filter fun m => !decide (m ∈ A)
/-- all that the law leans on, of two webs; ag: they do not go together -/
structure BB (n : Nat) (A B : List Nat) (ag : Bool) : Prop where
  hk : ∀ k ∈ srtP A ++ srtP B, halvOk n k
  io : ∀ ls : List (List Int), ls.Perm (srtP A ++ srtP B) → inOrd ls = srtP (uni A B)
  bs : (srtP (uni A B)).map bitsOf = (srtP (uni A B)).map sumP
  al : ag = false → AllGo ((srtP (uni A B)).map sumP)
  nal : ag = true → ¬ AllGo ((srtP (uni A B)).map sumP)
  gs : (gl n).filter (difW (srtP A) (srtP B)) = [] ↔ ag = false
  w4 : ∀ k, k ∈ wordsOf n (srtP A) ∨ k ∈ wordsOf n (srtP B) → k.length = 4 ∧ small k
  tw : ag = true ↔ ∃ a b, (a ∈ wordsOf n (srtP A) ∨ a ∈ wordsOf n (srtP B)) ∧ (b ∈ wordsOf n (srtP A) ∨ b ∈ wordsOf n (srtP B)) ∧ b ≠ a ∧ srtI b = srtI a
  bA : below n (srtP A)
  bB : below n (srtP B)
  ax : anyX (srtP A) (srtP B) = ag
  ac : 1 < n → ∀ sp : Nat, sp < n → anyC (inOrd (nestsOf n (srtP A) (sp : Int))) (inOrd (nestsOf n (srtP B) (sp : Int))) = ag
  n1 : n ≤ 1 → ag = false
  ms : ag = false → ∀ k, k ∈ wordsOf n (srtP A) ∨ k ∈ wordsOf n (srtP B) → k ∈ wordsOf n (srtP (uni A B))
theorem first_uniq {M : List Int} {i j i' j' : Nat} (h : FirstX M i j) (h' : FirstX M i' j') : i = i' ∧ j = j' := by
  obtain ⟨⟨n1, n2⟩, lt, x, y, hx, hy, g⟩ := h
  obtain ⟨⟨n1', n2'⟩, lt', x', y', hx', hy', g'⟩ := h'
  have e1 : i = i' := by
    rcases Nat.lt_trichotomy i i' with z | z | z
    · have := n1' i j x y z lt hx hy
      rw [g] at this; cases this
    · exact z
    · have := n1 i' j' x' y' z lt' hx' hy'
      rw [g'] at this; cases this
  subst e1
  refine ⟨rfl, ?_⟩
  rcases Nat.lt_trichotomy j j' with z | z | z
  · have := n2' j x y lt z hx hy
    rw [g] at this; cases this
  · exact z
  · have := n2 j' x' y' lt' z hx' hy'
    rw [g'] at this; cases this
theorem first_not {M : List Int} {i j : Nat} (h : FirstX M i j) : ¬ AllGo M := fun z => by
  obtain ⟨_, lt, x, y, hx, hy, g⟩ := h
  have := z i j x y lt hx hy
  rw [g] at this
  cases this
theorem srtP_len (ms : List Nat) : (srtP ms).length = ms.length := by unfold srtP; rw [List.length_mergeSort, List.length_map]
theorem mem_srtP {ms : List Nat} {k : List Int} : k ∈ srtP ms ↔ ∃ m ∈ ms, partOf m = k := by
  unfold srtP
  rw [List.mem_mergeSort, List.mem_map]
theorem mem_uni {A B : List Nat} {m : Nat} : m ∈ uni A B ↔ m ∈ A ∨ m ∈ B := by
  unfold uni
  rw [List.mem_append, List.mem_filter]
  constructor
  · rintro (z | z)
    · exact .inl z
    · exact .inr z.1
  · intro z
    by_cases h : m ∈ A
    · exact .inl h
    · exact .inr ⟨z.resolve_left h, by simpa using h⟩
theorem out_ne {k q : List Int} (h : q.length = 4) (h2 : (ins k q).length = 2) : (q.filter fun x => !decide (x ∈ ins k q)) ≠ [] := fun z => by
  have := List.filter_eq_nil_iff.mp z
  have e : ins k q = q := by
    unfold ins
    rw [List.filter_eq_self]
    intro x hx
    have h3 := this x hx
    have h4 : x ∈ ins k q := by simpa using h3
    exact (List.mem_filter.mp h4).2
  rw [e] at h2
  omega
def pmBB : List PyData → (PyData → Prop) → Prop := fun ds R => ∃ (n : Nat) (A B : List Nat), ds = [.int (n : Int), lN A, lN B] ∧ 1 ≤ n ∧ n ≤ 6 ∧ Web n A ∧ Web n B ∧ A.length ≤ 15 ∧ B.length ≤ 15 ∧ R (.bool true)
section
variable {P : Program} {w : World} {K : PySem.W.Frag} {mg : Str → Option Value} {base : Heap} {f : Addr} {fd : FuncData}
theorem sc49 : FnScope ["_law_fount_here", "_law_wide", "_law_arcs_here", "_law_mates", "_law_net", "_law_mate_here", "_law_union", "_law_told", "_law_against", "_law_one", "_law_two", "_law_first", "_law_due", "_law_joined_here", "_law_missing", "_law_mask", "_law_quad"] ["_law_fount_here", "_law_wide", "_law_arcs_here", "_law_mates"] (defScope (top 49)) := ⟨rfl, rfl, rfl, by decide +kernel, rfl, by decide +kernel, by decide +kernel⟩
theorem one17 {F G : Addr} {a b c d e f g h i j k l m n o p : Sl} (h1 : ∀ F' G', a ≠ .f F' G') (h2 : ∀ F' G', b ≠ .f F' G') (h3 : ∀ F' G', c ≠ .f F' G') (h4 : ∀ F' G', d ≠ .f F' G') (h5 : ∀ F' G', e ≠ .f F' G') (h6 : ∀ F' G', f ≠ .f F' G') (h7 : ∀ F' G', g ≠ .f F' G') (h8 : ∀ F' G', h ≠ .f F' G') (h9 : ∀ F' G', i ≠ .f F' G') (h10 : ∀ F' G', j ≠ .f F' G') (h11 : ∀ F' G', k ≠ .f F' G') (h12 : ∀ F' G', l ≠ .f F' G') (h13 : ∀ F' G', m ≠ .f F' G') (h14 : ∀ F' G', n ≠ .f F' G') (h15 : ∀ F' G', o ≠ .f F' G') (h16 : ∀ F' G', p ≠ .f F' G') : oneF F G [.f F G, a, b, c, d, e, f, g, h, i, j, k, l, m, n, o, p] :=
  one_f (one_cons h1 (one_cons h2 (one_cons h3 (one_cons h4 (one_cons h5 (one_cons h6 (one_cons h7 (one_cons h8 (one_cons h9 (one_cons h10 (one_cons h11 (one_cons h12 (one_cons h13 (one_cons h14 (one_cons h15 (one_cons h16 one_nil))))))))))))))))
theorem ok49 (hF : ∀ n A B, 1 ≤ n → n ≤ 6 → Web n A → Web n B → A.length ≤ 15 → B.length ≤ 15 → ∃ ag, BB n A B ag) (F : Fun K "_law_by_both" "_law_by_both" (top 49) f fd) (bm : Bi mg) (c33 : Cl false P w K mg base 1 "_law_draw" (spI pmDraw)) (c35 : Cl false P w K mg base 2 "_law_mixed" (spI pmMix)) (c39 : Cl false P w K mg base 4 "_law_pair" (spP pmPair)) (c45 : Cl false P w K mg base 7 "_law_joined" (spP pmJ))
    (c46 : Cl false P w K mg base 3 "_law_gainsaid" (spP pmGs)) (c23 : Cl false P w K mg base 3 "four_words" (spP pmFWs)) (c47 : Cl true P w K mg base 4 "_law_by_twice" (spP pmBT)) (c48 : Cl false P w K mg base 6 "_law_by_pairs" (spP pmBP)) (c44 : Cl false P w K mg base 4 "_law_first_pair" (spP pmFst)) (c15 : Cl false P w K mg base 1 "finer_web" (spP pmFW)) :
    FnV true P w K mg base CX0 8 f fd ["_law_fount_here", "_law_wide", "_law_arcs_here", "_law_mates"] (spI pmBB) := by
  refine fnI F sc49 (fun ds R ⟨_, _, _, e, _⟩ => by rw [e]; rfl) (by decide) fun X H h F G ds R hX ⟨n, A, B, ed, n1, hn, wA, wB, lA, lB, hR⟩ => ?_
  obtain ⟨f, cdv, Ar, outer, s, H0, E, rfl, hr, gd⟩ := hX
  subst ed
  have hN := sc49.nd
  have gg := gd rfl
  obtain ⟨ag, bb⟩ := hF n A B n1 hn wA wB lA lB
  have lSA := srtP_len A
  have lSB := srtP_len B
  have lU : (uni A B).length ≤ 30 := by
    unfold uni
    rw [List.length_append]
    have := List.length_filter_le (fun m => !decide (m ∈ A)) B
    omega
  have lSU := srtP_len (uni A B)
  have f4 := fl4 n (by omega)
  have g4 := gl4 n (by omega)
  have lW : ∀ hs, (wordsOf n hs).length ≤ 15 := fun hs => Nat.le_trans (List.length_filterMap_le _ _) (flN n (by omega))
  -- the pairs
  refine wss_cons (N1 := fun s => s = [.f F G, .d (.int (n : Int)), .d (lN A), .d (lN B), .d (netT n (srtP A)), .d (netT n (srtP B)), .u, .u, .u, .u, .u, .u, .u, .u, .u, .u, .u]) (ws_par 4 5 (Rs := fun z => z = [netT n (srtP A), netT n (srtP B)]) rfl hN (da_cons (we_call c39 hr (by decide) rfl (da_cons (de_var 1) (da_cons (de_var 2) wa_nil)) fun ds e => ⟨n, A, e, by omega, rfl⟩) (da_cons (we_call c39 hr (by decide) rfl (da_cons (de_var 1) (da_cons (de_var 3) wa_nil)) fun ds e => ⟨n, B, e, by omega, rfl⟩) wa_nil)) fun ds e => ⟨_, _, e, rfl⟩) fun s e => ?_
  subst e
  -- the union
  refine wss_cons (N1 := fun s => s = [.f F G, .d (.int (n : Int)), .d (lN A), .d (lN B), .d (netT n (srtP A)), .d (netT n (srtP B)), .d (lN (uni A B)), .u, .u, .u, .u, .u, .u, .u, .u, .u, .u]) (ws_set 6 (Re := fun d => d = lN (uni A B)) (WE.eq (de_catL (WE.eq (de_var 2) (lN_eq A)) (de_lcF (as := B) (enc := iN) (out := iN) (p := fun m => !decide (m ∈ A)) 15 rfl hN (di_list (WE.eq (de_var 3) (lN_eq B))) (blkOk_by rfl) (fun m hm D s H C cl fp => WT.eq (dt_c (dc_ninI hr (ns := A.map Int.ofNat) isq_l (de_var 15) (de_var 2))) ?_) (fun m hm _ D s H C cl fp => de_var 15) (by omega)) ?_) ?_) (fun d e => by rw [e]; rfl) hN) fun s e => ?_
  · congr 1
    refine decide_eq_decide.mpr ⟨fun z => ?_, fun z => List.mem_map.mpr ⟨m, z, rfl⟩⟩
    obtain ⟨x, hx, ex⟩ := List.mem_map.mp z
    rw [← Int.ofNat.inj ex]
    exact hx
  · have := List.length_filter_le (fun m => !decide (m ∈ A)) B
    rw [List.length_map, List.length_map]
    omega
  · rw [lN_eq (uni A B)]
    unfold uni
    rw [List.map_append]
  subst e
  have hne : ∀ (q : List Int) (k : List Int), q.length = 4 → (ins k q).length = 2 → (q.filter fun x => !decide (x ∈ ins k q)) ≠ [] := fun q k h1 h2 => out_ne h1 h2
  have ksA : ∀ k ∈ srtP A, small k := fun k hk x hx => by have := (bb.bA.2 k hk).2 x hx; omega
  have ksB : ∀ k ∈ srtP B, small k := fun k hk x hx => by have := (bb.bB.2 k hk).2 x hx; omega
  -- told, against
  refine wss_cons (N1 := fun s => ∃ told, ((∃ i j x y, FirstX ((srtP (uni A B)).map sumP) i j ∧ (srtP (uni A B))[i]? = some x ∧ (srtP (uni A B))[j]? = some y ∧ told = .list [.str "cross", .tuple [tI x, tI y]]) ∨ (AllGo ((srtP (uni A B)).map sumP) ∧ told = .list [.str "web", netT n (srtP (uni A B))])) ∧ s = [.f F G, .d (.int (n : Int)), .d (lN A), .d (lN B), .d (netT n (srtP A)), .d (netT n (srtP B)), .d (lN (uni A B)), .d told, .d (lTs ((gl n).filter (difW (srtP A) (srtP B)))), .u, .u, .u, .u, .u, .u, .u, .u]) (ws_par 7 8
    (Rs := fun ds => ∃ told r, ds = told :: r ∧ ((∃ i j x y, FirstX ((srtP (uni A B)).map sumP) i j ∧ (srtP (uni A B))[i]? = some x ∧ (srtP (uni A B))[j]? = some y ∧ told = .list [.str "cross", .tuple [tI x, tI y]]) ∨ (AllGo ((srtP (uni A B)).map sumP) ∧ told = .list [.str "web", netT n (srtP (uni A B))])) ∧ r = [lTs ((gl n).filter (difW (srtP A) (srtP B)))]) rfl hN
    (wa_cons (Ra := fun told => (∃ i j x y, FirstX ((srtP (uni A B)).map sumP) i j ∧ (srtP (uni A B))[i]? = some x ∧ (srtP (uni A B))[j]? = some y ∧ told = .list [.str "cross", .tuple [tI x, tI y]]) ∨ (AllGo ((srtP (uni A B)).map sumP) ∧ told = .list [.str "web", netT n (srtP (uni A B))])) (Rr := fun _ r => r = [lTs ((gl n).filter (difW (srtP A) (srtP B)))])
      (we_call (Rs := fun ds => ∃ ls : List (List Int), ls.Perm (srtP A ++ srtP B) ∧ ds = [.int (n : Int), lTs ls]) c45 hr (by decide) rfl (WA.imp (wa_cons (Ra := fun d => d = .int (n : Int)) (Rr := fun _ r => ∃ ls : List (List Int), ls.Perm (srtP A ++ srtP B) ∧ r = [lTs ls]) (de_var 1) fun _ _ => WA.imp (wa_one (Ra := fun d => ∃ ls : List (List Int), ls.Perm (srtP A ++ srtP B) ∧ d = lTs ls)
          (we_callI 0 c35 hr (by decide) rfl rfl (one17 nofun nofun nofun nofun nofun nofun nofun nofun nofun nofun nofun nofun nofun nofun nofun nofun) (da_cons (de_catL (ds := (srtP A).map tI) (es := (srtP B).map tI) (de_list rfl (bm _ (by decide)) isq_t (de_ix (n := 1) isq_t (de_var 4) de_int rfl rfl)) (de_list rfl (bm _ (by decide)) isq_t (de_ix (n := 1) isq_t (de_var 5) de_int rfl rfl)) (by rw [List.length_map, List.length_map]; omega)) wa_nil) fun ds e => ⟨srtP A ++ srtP B, by rw [e]; unfold lTs; rw [List.map_append], by rw [List.length_append]; omega, fun ls pm => ⟨ls, pm, rfl⟩⟩)) fun ds ⟨d, e1, ls, pm, e2⟩ => ⟨ls, pm, by rw [e1, e2]⟩) fun ds ⟨d, r, e1, e2, ls, pm, e3⟩ => ⟨ls, pm, by rw [e1, e2, e3]⟩)
        fun ds ⟨ls, pm, e⟩ => ⟨n, ls, e, ?lens, by omega, fun k hk => bb.hk k (pm.mem_iff.mp hk), fun i j x y fx hx hy => ?crs, fun agx => ?web⟩)
      fun _ _ => da_cons (we_call (R := fun x => x = lTs ((gl n).filter (difW (srtP A) (srtP B)))) c46 hr (by decide) rfl (da_cons (de_var 4) (da_cons (de_var 5) wa_nil)) fun ds e => ⟨n, _, _, e, hn, by omega, by omega, fun q hq k _ h2 => hne q k (g4 q hq) h2, rfl⟩) wa_nil) fun ds ⟨told, r, e1, ht, e2⟩ => ⟨told, _, by rw [e1, e2], told, ht, rfl⟩) fun s ⟨told, ht, e⟩ => ?rest
  case lens =>
    have := pm.length_eq
    rw [List.length_append] at this
    omega
  case crs =>
    rw [bb.io ls pm] at fx hx hy
    rw [bb.bs] at fx
    exact .inl ⟨i, j, x, y, fx, hx, hy, rfl⟩
  case web =>
    rw [bb.io ls pm, bb.bs] at agx
    exact .inr ⟨agx, by rw [bb.io ls pm]⟩
  case rest =>
  subst e
  -- the words
  have eL : ∀ hs : List (List Int), PyData.list (((wordsOf n hs).mergeSort leT).map tI) = lTs ((wordsOf n hs).mergeSort leT) := fun hs => rfl
  refine wss_cons (N1 := fun s => s = [.f F G, .d (.int (n : Int)), .d (lN A), .d (lN B), .d (netT n (srtP A)), .d (netT n (srtP B)), .d (lN (uni A B)), .d told, .d (lTs ((gl n).filter (difW (srtP A) (srtP B)))), .d (lTs ((wordsOf n (srtP A)).mergeSort leT)), .d (lTs ((wordsOf n (srtP B)).mergeSort leT)), .u, .u, .u, .u, .u, .u]) (ws_par 9 10 (Rs := fun z => z = [lTs ((wordsOf n (srtP A)).mergeSort leT), lTs ((wordsOf n (srtP B)).mergeSort leT)]) rfl hN
    (da_cons (de_list rfl (bm _ (by decide)) isq_t (we_call (R := fun x => x = tTs ((wordsOf n (srtP A)).mergeSort leT)) c23 hr (by decide) rfl (da_cons (de_var 4) wa_nil) fun ds e => ⟨n, _, e, hn, by omega, fun q hq k _ h2 => hne q k (f4 q hq) h2, rfl⟩))
    (da_cons (de_list rfl (bm _ (by decide)) isq_t (we_call (R := fun x => x = tTs ((wordsOf n (srtP B)).mergeSort leT)) c23 hr (by decide) rfl (da_cons (de_var 5) wa_nil) fun ds e => ⟨n, _, e, hn, by omega, fun q hq k _ h2 => hne q k (f4 q hq) h2, rfl⟩)) wa_nil)) fun ds e => ⟨_, _, e, rfl⟩) fun s e => ?_
  subst e
  have l1 : ((wordsOf n (srtP A)).mergeSort leT).length ≤ 15 := by rw [List.length_mergeSort]; exact lW _
  have l2 : ((wordsOf n (srtP B)).mergeSort leT).length ≤ 15 := by rw [List.length_mergeSort]; exact lW _
  generalize hW1 : (wordsOf n (srtP A)).mergeSort leT = W1 at l1
  generalize hW2 : (wordsOf n (srtP B)).mergeSort leT = W2 at l2
  have m1 : ∀ k, k ∈ W1 ↔ k ∈ wordsOf n (srtP A) := fun k => by rw [← hW1, List.mem_mergeSort]
  have m2 : ∀ k, k ∈ W2 ↔ k ∈ wordsOf n (srtP B) := fun k => by rw [← hW2, List.mem_mergeSort]
  have eag : (!decide (((gl n).filter (difW (srtP A) (srtP B))).map tI = [])) = ag := by
    cases ag with
    | true =>
      have : ¬ (((gl n).filter (difW (srtP A) (srtP B))).map tI = []) := fun z => by
        have := bb.gs.mp (List.map_eq_nil_iff.mp z)
        cases this
      rw [decide_eq_false this]; rfl
    | false =>
      rw [decide_eq_true (List.map_eq_nil_iff.mpr (bb.gs.mpr rfl))]; rfl
  generalize hGs : (gl n).filter (difW (srtP A) (srtP B)) = Gs at eag
  have catW : ∀ {X : Cx}, True := trivial
  have wcat : lTs (W1 ++ W2) = .list (W1.map tI ++ W2.map tI) := by unfold lTs; rw [List.map_append]
  -- by twice
  refine wss_cons (N1 := fun s => s = [.f F G, .d (.int (n : Int)), .d (lN A), .d (lN B), .d (netT n (srtP A)), .d (netT n (srtP B)), .d (lN (uni A B)), .d told, .d (lTs Gs), .d (lTs W1), .d (lTs W2), .u, .u, .u, .u, .u, .u]) (ws_if (S := fun b => b = false) (wt_not (wt_val (we_call (Rs := fun ds => ∃ ls : List (List Int), ls.Perm (W1 ++ W2) ∧ ds = [.int (n : Int), lTs ls, .bool ag]) (R := fun d => ∃ c, d = .bool c ∧ (!c) = false) c47 hr (by decide) rfl
    (WA.imp (wa_cons (Ra := fun d => d = .int (n : Int)) (Rr := fun _ r => ∃ ls : List (List Int), ls.Perm (W1 ++ W2) ∧ r = [lTs ls, .bool ag]) (de_var 1) fun _ _ => WA.imp (wa_cons (Ra := fun d => ∃ ls : List (List Int), ls.Perm (W1 ++ W2) ∧ d = lTs ls) (Rr := fun _ r => r = [.bool ag]) (we_callI 0 c35 hr (by decide) rfl rfl (one17 nofun nofun nofun nofun nofun nofun nofun nofun nofun nofun nofun nofun nofun nofun nofun nofun) (da_cons (de_catL (ds := W1.map tI) (es := W2.map tI) (de_var 9) (de_var 10) (by rw [List.length_map, List.length_map]; omega)) wa_nil) fun ds e => ⟨W1 ++ W2, by rw [e, wcat], by rw [List.length_append]; omega, fun ls pm => ⟨ls, pm, rfl⟩⟩)
      fun _ _ => da_cons (WE.eq (de_c (dc_neNil hr shp_lTs (de_var 8) (de_lst wa_nil))) (by rw [eag])) wa_nil) fun ds ⟨d, r, e1, ⟨ls, pm, e2⟩, e3⟩ => ⟨ls, pm, by rw [e1, e2, e3]⟩) fun ds ⟨d, r, e1, e2, ls, pm, e3⟩ => ⟨ls, pm, by rw [e1, e2, e3]⟩)
    (fun ds ⟨ls, pm, e⟩ => ⟨n, ls, ag, e, by omega, ?bl, fun k hk => ?bk, ?btw, true, rfl, rfl⟩) (gd := fun _ => gg)))) (fun e => by cases e) fun _ => wss_nil rfl) fun s e => ?rest2
  case bl =>
    have := pm.length_eq
    rw [List.length_append] at this
    omega
  case bk =>
    have := pm.mem_iff.mp hk
    rw [List.mem_append, m1, m2] at this
    exact bb.w4 k this
  case btw =>
    have mm : ∀ k, k ∈ ls ↔ (k ∈ wordsOf n (srtP A) ∨ k ∈ wordsOf n (srtP B)) := fun k => by rw [pm.mem_iff, List.mem_append, m1, m2]
    rw [bb.tw]
    constructor
    · rintro ⟨a, b, ha, hb, h1, h2⟩
      exact ⟨a, (mm a).mpr ha, b, (mm b).mpr hb, h1, h2⟩
    · rintro ⟨a, ha, b, hb, h1, h2⟩
      exact ⟨a, b, (mm a).mp ha, (mm b).mp hb, h1, h2⟩
  case rest2 =>
  subst e
  -- by pairs
  refine wss_cons (N1 := fun s => s = [.f F G, .d (.int (n : Int)), .d (lN A), .d (lN B), .d (netT n (srtP A)), .d (netT n (srtP B)), .d (lN (uni A B)), .d told, .d (lTs Gs), .d (lTs W1), .d (lTs W2), .u, .u, .u, .u, .u, .u]) (ws_if (S := fun b => b = false) (wt_not (wt_val (we_call (Rs := fun ds => ∃ sp : Nat, sp < n ∧ ds = [.int (n : Int), netT n (srtP A), netT n (srtP B), .int (sp : Int), .bool ag]) (R := fun d => ∃ c, d = .bool c ∧ (!c) = false) c48 hr (by decide) rfl
    (WA.imp (wa_cons (Ra := fun d => d = .int (n : Int)) (Rr := fun _ r => ∃ sp : Nat, sp < n ∧ r = [netT n (srtP A), netT n (srtP B), .int (sp : Int), .bool ag]) (de_var 1) fun _ _ => WA.imp (wa_cons (Ra := fun d => d = netT n (srtP A)) (Rr := fun _ r => ∃ sp : Nat, sp < n ∧ r = [netT n (srtP B), .int (sp : Int), .bool ag]) (de_var 4) fun _ _ => WA.imp (wa_cons (Ra := fun d => d = netT n (srtP B)) (Rr := fun _ r => ∃ sp : Nat, sp < n ∧ r = [.int (sp : Int), .bool ag]) (de_var 5) fun _ _ => WA.imp (wa_cons (Ra := fun d => ∃ sp : Nat, sp < n ∧ d = .int (sp : Int)) (Rr := fun _ r => r = [.bool ag]) (we_callI 0 c33 hr (by decide) rfl rfl (one17 nofun nofun nofun nofun nofun nofun nofun nofun nofun nofun nofun nofun nofun nofun nofun nofun) (da_cons (de_var 1) wa_nil) fun ds e => ⟨n, e, by omega, by omega, fun i hi => ⟨i, hi, rfl⟩⟩)
      fun _ _ => da_cons (WE.eq (de_c (dc_neNil hr shp_lTs (de_var 8) (de_lst wa_nil))) (by rw [eag])) wa_nil) fun ds ⟨d, r, e1, ⟨sp, hs, e2⟩, e3⟩ => ⟨sp, hs, by rw [e1, e2, e3]⟩) fun ds ⟨d, r, e1, e2, sp, hs, e3⟩ => ⟨sp, hs, by rw [e1, e2, e3]⟩) fun ds ⟨d, r, e1, e2, sp, hs, e3⟩ => ⟨sp, hs, by rw [e1, e2, e3]⟩) fun ds ⟨d, r, e1, e2, sp, hs, e3⟩ => ⟨sp, hs, by rw [e1, e2, e3]⟩)
    fun ds ⟨sp, hs, e⟩ => ⟨n, _, _, (sp : Int), ag, e, n1, hn, bb.bA, bb.bB, by omega, bb.ax, fun h2 => bb.ac h2 sp hs, bb.n1, true, rfl, rfl⟩))) (fun e => by cases e) fun _ => wss_nil rfl) fun s e => ?_
  subst e
  -- the first pair
  refine wss_cons (N1 := fun s => ∃ fst, ((∃ i j x y, FirstX ((srtP (uni A B)).map sumP) i j ∧ (srtP (uni A B))[i]? = some x ∧ (srtP (uni A B))[j]? = some y ∧ fst = .tuple [tI x, tI y]) ∨ (AllGo ((srtP (uni A B)).map sumP) ∧ fst = .none)) ∧ s = [.f F G, .d (.int (n : Int)), .d (lN A), .d (lN B), .d (netT n (srtP A)), .d (netT n (srtP B)), .d (lN (uni A B)), .d told, .d (lTs Gs), .d (lTs W1), .d (lTs W2), .d fst, .u, .u, .u, .u, .u]) (ws_set 11 (we_call (R := fun fst => (∃ i j x y, FirstX ((srtP (uni A B)).map sumP) i j ∧ (srtP (uni A B))[i]? = some x ∧ (srtP (uni A B))[j]? = some y ∧ fst = .tuple [tI x, tI y]) ∨ (AllGo ((srtP (uni A B)).map sumP) ∧ fst = .none)) c44 hr (by decide) rfl (da_cons (de_var 6) wa_nil) fun ds e => ⟨_, e, by omega, fun i j x y fx hx hy => .inl ⟨i, j, x, y, fx, hx, hy, rfl⟩, fun agx => .inr ⟨agx, rfl⟩⟩) (fun d hd => ⟨d, hd, rfl⟩) hN) fun s ⟨fst, hf, e⟩ => ?_
  subst e
  have pl : ∀ k ∈ srtP (uni A B), small k ∧ k.length ≤ 9 := fun k hk => by
    obtain ⟨m, _, rfl⟩ := mem_srtP.mp hk
    exact ⟨partOf_small m, partOf_len m⟩
  cases ag with
  | true =>
    have na := bb.nal rfl
    rcases ht with ⟨i, j, x, y, fx, hx, hy, et⟩ | ⟨z, _⟩
    · rcases hf with ⟨i', j', x', y', fx', hx', hy', ef⟩ | ⟨z, _⟩
      · obtain ⟨e1, e2⟩ := first_uniq fx fx'
        subst e1 e2
        rw [hx] at hx'
        rw [hy] at hy'
        cases hx'
        cases hy'
        subst et ef
        have sx := pl x (List.mem_of_getElem? hx)
        have sy := pl y (List.mem_of_getElem? hy)
        have s1 : Sm (.tuple [tI x, tI y]) 128 5 := sm_tup (w := 63) (p := 3) (n := 2) (fun d hd => by
          rcases List.mem_cons.mp hd with z | z
          · rw [z]; exact sm_tI sx.1 sx.2
          · rw [List.mem_singleton.mp z]; exact sm_tI sy.1 sy.2) (by simp)
        have sw : Shw (.list [.str "cross", .tuple [tI x, tI y]]) := (sm_lst (w := 128) (p := 5) (n := 2) (fun d hd => by
          rcases List.mem_cons.mp hd with z | z
          · rw [z]; exact (sm_str ok_cross).mono (by decide) (by decide)
          · rw [List.mem_singleton.mp z]; exact s1) (by simp)).shw (by decide) (by decide)
        refine wss_cons (N1 := fun _ => False) (ws_if (WT.eq (dt_c (dc_neNil hr shp_lTs (de_var 8) (de_lst wa_nil))) eag) (fun _ => wss_one (ws_ret (de_andV (de_c (dc_notN (de_var 11))) fun _ => de_andV1 (de_c (dc_eqS (de_repr hr gg rfl (bm _ (by decide)) sw (.inr (.inl ⟨_, rfl⟩)) (de_var 7)) (de_repr hr gg rfl (bm _ (by decide)) sw (.inr (.inl ⟨_, rfl⟩)) (de_lst (da_cons de_str (da_cons (de_var 11) wa_nil))))))) fun d e => ⟨rfl, by
          rw [e, decide_eq_true rfl]
          exact hR⟩)) fun e => by cases e) fun s e => e.elim
      · exact absurd z na
    · exact absurd z na
  | false =>
    have ya := bb.al rfl
    rcases ht with ⟨i, j, x, y, fx, _⟩ | ⟨_, et⟩
    · exact absurd ya (first_not fx)
    rcases hf with ⟨i, j, x, y, fx, _⟩ | ⟨_, ef⟩
    · exact absurd ya (first_not fx)
    subst et ef
    have s1 : Sm (netT n (srtP (uni A B))) 6000 8 := sm_netT (by omega) pl (by omega)
    have sw : Shw (.list [.str "web", netT n (srtP (uni A B))]) := (sm_lst (w := 6000) (p := 8) (n := 2) (fun d hd => by
      rcases List.mem_cons.mp hd with z | z
      · rw [z]; exact (sm_str ok_web).mono (by decide) (by decide)
      · rw [List.mem_singleton.mp z]; exact s1) (by simp)).shw (by decide) (by decide)
    refine wss_cons (N1 := fun s => s = [.f F G, .d (.int (n : Int)), .d (lN A), .d (lN B), .d (netT n (srtP A)), .d (netT n (srtP B)), .d (lN (uni A B)), .d (.list [.str "web", netT n (srtP (uni A B))]), .d (lTs Gs), .d (lTs W1), .d (lTs W2), .d .none, .u, .u, .u, .u, .u]) (ws_if (WT.eq (dt_c (dc_neNil hr shp_lTs (de_var 8) (de_lst wa_nil))) eag) (fun e => by cases e) fun _ => wss_nil rfl) fun s e => ?_
    subst e
    refine wss_cons (N1 := fun s => s = [.f F G, .d (.int (n : Int)), .d (lN A), .d (lN B), .d (netT n (srtP A)), .d (netT n (srtP B)), .d (lN (uni A B)), .d (.list [.str "web", netT n (srtP (uni A B))]), .d (lTs Gs), .d (lTs W1), .d (lTs W2), .d .none, .d (netT n (srtP (uni A B))), .u, .u, .u, .u]) (ws_set 12 (we_call (R := fun x => x = netT n (srtP (uni A B))) c39 hr (by decide) rfl (da_cons (de_var 1) (da_cons (de_var 6) wa_nil)) fun ds e => ⟨n, _, e, by omega, rfl⟩) (fun d e => by rw [e]; rfl) hN) fun s e => ?_
    subst e
    refine wss_cons (N1 := fun s => s = [.f F G, .d (.int (n : Int)), .d (lN A), .d (lN B), .d (netT n (srtP A)), .d (netT n (srtP B)), .d (lN (uni A B)), .d (.list [.str "web", netT n (srtP (uni A B))]), .d (lTs Gs), .d (lTs W1), .d (lTs W2), .d .none, .d (netT n (srtP (uni A B))), .u, .u, .u, .u]) (ws_if (dt_or (dt_c (dc_notN (de_var 11))) fun _ => dt_c (dc_neS (de_repr hr gg rfl (bm _ (by decide)) sw (.inr (.inl ⟨_, rfl⟩)) (de_var 7)) (de_repr hr gg rfl (bm _ (by decide)) sw (.inr (.inl ⟨_, rfl⟩)) (de_lst (da_cons de_str (da_cons (de_var 12) wa_nil)))))) (fun e => by rw [decide_eq_true rfl] at e; cases e) fun _ => wss_nil rfl) fun s e => ?_
    subst e
    have lU2 : ((wordsOf n (srtP (uni A B))).mergeSort leT).length ≤ 15 := by rw [List.length_mergeSort]; exact lW _
    refine wss_cons (N1 := fun s => s = [.f F G, .d (.int (n : Int)), .d (lN A), .d (lN B), .d (netT n (srtP A)), .d (netT n (srtP B)), .d (lN (uni A B)), .d (.list [.str "web", netT n (srtP (uni A B))]), .d (lTs Gs), .d (lTs W1), .d (lTs W2), .d .none, .d (netT n (srtP (uni A B))), .d (tTs ((wordsOf n (srtP (uni A B))).mergeSort leT)), .u, .u, .u]) (ws_set 13 (we_call (R := fun x => x = tTs ((wordsOf n (srtP (uni A B))).mergeSort leT)) c23 hr (by decide) rfl (da_cons (de_var 12) wa_nil) fun ds e => ⟨n, _, e, hn, by omega, fun q hq k _ h2 => hne q k (f4 q hq) h2, rfl⟩) (fun d e => by rw [e]; rfl) hN) fun s e => ?_
    subst e
    have noM : (W1 ++ W2).filter (fun k => !decide (k ∈ (wordsOf n (srtP (uni A B))).mergeSort leT)) = [] := by
      rw [List.filter_eq_nil_iff]
      intro k hk
      rw [List.mem_append, m1, m2] at hk
      have := bb.ms rfl k hk
      have h2 : k ∈ (wordsOf n (srtP (uni A B))).mergeSort leT := by rw [List.mem_mergeSort]; exact this
      simp [h2]
    refine wss_cons (N1 := fun s => s = [.f F G, .d (.int (n : Int)), .d (lN A), .d (lN B), .d (netT n (srtP A)), .d (netT n (srtP B)), .d (lN (uni A B)), .d (.list [.str "web", netT n (srtP (uni A B))]), .d (lTs Gs), .d (lTs W1), .d (lTs W2), .d .none, .d (netT n (srtP (uni A B))), .d (tTs ((wordsOf n (srtP (uni A B))).mergeSort leT)), .d (lTs []), .u, .u]) (ws_lcN (as := W1 ++ W2) (enc := tI) (out := tI) (p := fun k => !decide (k ∈ (wordsOf n (srtP (uni A B))).mergeSort leT)) 14 16 rfl hN (di_list (WE.eq (de_catL (ds := W1.map tI) (es := W2.map tI) (de_var 9) (de_var 10) (by rw [List.length_map, List.length_map]; omega)) (by rw [List.map_append]))) (blkOk_by rfl) (fun k hk D s H C cl fp => dt_c (dc_ninL hr isq_t (de_var 16) (de_var 13))) (fun k hk _ D s H C cl fp => de_var 16) (by rw [List.length_append]; omega) (by rw [noM]; rfl)) fun s e => ?_
    subst e
    have allA : (srtP A).all (fun k => decide (k ∈ srtP (uni A B))) = true := by
      rw [List.all_eq_true]
      intro k hk
      obtain ⟨m, hm, rfl⟩ := mem_srtP.mp hk
      exact decide_eq_true (mem_srtP.mpr ⟨m, mem_uni.mpr (.inl hm), rfl⟩)
    have allB : (srtP B).all (fun k => decide (k ∈ srtP (uni A B))) = true := by
      rw [List.all_eq_true]
      intro k hk
      obtain ⟨m, hm, rfl⟩ := mem_srtP.mp hk
      exact decide_eq_true (mem_srtP.mpr ⟨m, mem_uni.mpr (.inr hm), rfl⟩)
    exact wss_one (ws_ret (de_andV (de_c (dc_eqNil hr (shp_lTs (ks := [])) (de_var 14) (de_lst wa_nil))) fun _ => de_andV (de_c (dc_isB (we_call (R := fun x => x = .bool true) c15 hr (by decide) rfl (da_cons (de_var 12) (da_cons (de_var 4) wa_nil)) fun ds e => ⟨n, _, _, e, by omega, by rw [allA]⟩) de_bl)) fun _ => de_andV1 (de_c (dc_isB (we_call (R := fun x => x = .bool true) c15 hr (by decide) rfl (da_cons (de_var 12) (da_cons (de_var 5) wa_nil)) fun ds e => ⟨n, _, _, e, by omega, by rw [allB]⟩) de_bl))) fun d e => ⟨rfl, by rw [e]; exact hR⟩)
end
end F26

/-! walk: the law -/
namespace F26
open PySem PySem.Spec L2

def spL (K : PySem.W.Frag) : Sp := fun vs H Q _ => ∃ (a : Addr) (ns : List Int), vs = [.ref a] ∧ SqL K H a (ns.map V.int) ∧ ns.length ≤ 63 ∧ ∀ H', Q (.bl true) H'
section
variable {P : Program} {w : World} {K : PySem.W.Frag} {mg : Str → Option Value} {base : Heap} {f : Addr} {fd : FuncData}
theorem sc50 : FnScope ["_law_script", "_law_fount_here", "_law_wide", "_law_mates", "_law_turn", "_law_arcs_here"] ["_law_script"] (defScope (top 50)) := ⟨rfl, rfl, rfl, by decide +kernel, rfl, by decide +kernel, by decide +kernel⟩
theorem enL {σ : L2.St} {H : Hp} {F G p : Addr} {gs : List Int} {st : Int} {a : V} (hs : σ = [some a, some (.ref F), some (.int 1), some (.ref p), none, none]) (nFG : F ≠ G) (eF : H F = some (.lst [.ref G, .int st, .int 0])) (eG : H G = some (.lst (gs.map V.int))) (h0 : 0 ≤ st) (h1 : st < 18446744073709551616) (ep : H p = some (.lst [])) (pF : p ≠ F) (pG : p ≠ G) :
    En K ⟨H, [F, G]⟩ [F, G] H σ [.u, .f F G, .d (.int 1), .d (lN []), .u, .u] where
  rel := Same.refl _
  dom := fun x hx => by
    rcases List.mem_cons.mp hx with z | z
    · exact ⟨_, by rw [z]; exact eF⟩
    · exact ⟨_, by rw [List.mem_singleton.mp z]; exact eG⟩
  mdh := fun x hx => hx
  len := by rw [hs]; rfl
  sl := fun i x hi => by
    subst hs
    match i, hi with
    | 0, hi => exact .inl (Option.some.inj hi).symm
    | 1, hi =>
      have := (Option.some.inj hi).symm
      subst this
      exact .inr ⟨_, rfl, rfl, by simp, by simp, nFG, gs, st, 0, eF, eG, h0, h1⟩
    | 2, hi =>
      have := (Option.some.inj hi).symm
      subst this
      exact .inr ⟨_, rfl, .int 1⟩
    | 3, hi =>
      have := (Option.some.inj hi).symm
      subst this
      refine .inr ⟨_, rfl, .lst (hid_some.mpr ⟨fun z => ?_, ep⟩) .nil⟩
      rcases List.mem_cons.mp z with y | y
      · exact pF y
      · exact pG (List.mem_singleton.mp y)
    | 4, hi => exact .inl (Option.some.inj hi).symm
    | 5, hi => exact .inl (Option.some.inj hi).symm
    | i + 6, hi => simp at hi
  nd := fun i j q ds es hi hj => by
    match i, hi with
    | 0, hi => cases hi
    | 1, hi => cases hi
    | 2, hi => cases hi
    | 3, hi => cases hi
    | 4, hi => cases hi
    | 5, hi => cases hi
    | i + 6, hi => simp at hi
theorem ok50 (ia : ∀ n ms, 1 ≤ n → n ≤ 6 → IsArcs n ms → Web n ms ∧ ms.length ≤ 10) (F : Fun K "law" "law" (top 50) f fd) (bm : Bi mg) (c32 : Cl false P w K mg base 1 "_law_fount" (spFt K)) (c33 : Cl false P w K mg base 1 "_law_draw" (spI pmDraw)) (c34 : Cl false P w K mg base 2 "_law_pick" (spI pmPick)) (c40 : Cl false P w K mg base 4 "_law_arcs" (spI pmArcs)) (c42 : Cl false P w K mg base 5 "_law_mate" (spI pmMate)) (c49 : Cl true P w K mg base 8 "_law_by_both" (spI pmBB)) : FnV true P w K mg base CX0 9 f fd ["_law_script"] (spL K) := by
  refine fnV_of F sc50 (fun vs H Q E ⟨a, ns, e, _⟩ => by rw [e]; rfl) fun cdv A outer s H vs Q E gd hr ⟨a, ns, ev, hq, hz, q⟩ => ?_
  subst ev
  have hN := sc50.nd
  have gg := gd rfl
  refine ⟨_, PSs.nox (X := cxOf CX0 P w K mg base ["_law_script", "_law_fount_here", "_law_wide", "_law_mates", "_law_turn", "_law_arcs_here"] "law" (defScope (top 50)) f cdv A outer s H E)
    (pss_cons (L2.ps_par3 (i := 1) (j := 2) (l := 3) rfl hN rfl rfl rfl (by decide) (by decide) (by decide) rfl rfl rfl (pa_cons (pe_callV c32 (by nofun) (hr.mono (by decide)) rfl (pa_cons (pv 0) pa_nil)) (pa_cons pe_int (pa_cons (pe_lst pa_nil) pa_nil))) rfl) pss_w), ?_⟩
  refine ⟨_, rfl, a, ns, rfl, hq, hz, fun F G gs st H1 nFG eF eG h0 h1 => ?_⟩
  refine ⟨Nat.zero_le _, fun p hp => ⟨_, _, _, rfl, ?_⟩⟩
  have pF : p ≠ F := fun z => by rw [z, eF] at hp; cases hp
  have pG : p ≠ G := fun z => by rw [z, eG] at hp; cases hp
  have en := enL (K := K) (H := upd H1 p (.lst [])) (σ := (((L2.start ["_law_script", "_law_fount_here", "_law_wide", "_law_mates", "_law_turn", "_law_arcs_here"] [V.ref a]).set 1 (some (.ref F))).set 2 (some (.int 1))).set 3 (some (.ref p))) rfl nFG (by rw [upd_ne pF.symm]; exact eF) (by rw [upd_ne pG.symm]; exact eG) h0 h1 upd_same pF pG
  have o6 : ∀ {b c d e : Sl}, (∀ F' G', b ≠ .f F' G') → (∀ F' G', c ≠ .f F' G') → (∀ F' G', d ≠ .f F' G') → (∀ F' G', e ≠ .f F' G') → oneF F G [.u, .f F G, b, c, d, e] := fun h2 h3 h4 h5 => one_cons nofun (one_f (one_cons h2 (one_cons h3 (one_cons h4 (one_cons h5 one_nil)))))
  have main : WSs (cxOf CX0 P w K mg base ["_law_script", "_law_fount_here", "_law_wide", "_law_mates", "_law_turn", "_law_arcs_here"] "law" (defScope (top 50)) f cdv A outer s H E).nox ⟨upd H1 p (.lst []), [F, G]⟩ [F, G] ((defBody (top 50)).drop 1) [.u, .f F G, .d (.int 1), .d (lN []), .u, .u] (fun _ => False) (fun _ d => d = .bool true) := by
    refine wss_cons (N1 := fun s => ∃ (n : Nat) (B : List Nat), 1 ≤ n ∧ n ≤ 6 ∧ Web n B ∧ B.length ≤ 15 ∧ s = [.u, .f F G, .d (.int (n : Int)), .d (lN B), .u, .u]) (ws_forRN (mm := 3) (lo := 0) 4 [4, 5] (fun i s => ∃ (n : Nat) (B : List Nat), 1 ≤ n ∧ n ≤ 6 ∧ Web n B ∧ B.length ≤ 15 ∧ s = [.u, .f F G, .d (.int (n : Int)), .d (lN B), .u, .u]) PassesOwn.never rfl (wr1 _ rfl (bm _ (by decide)) de_int rfl (by omega)) (pg_name hN rfl (Or.inl rfl))
      ⟨1, [], by omega, by omega, ⟨fun m hm => (nomatch hm), .nil⟩, Nat.zero_le _, rfl⟩ (fun i s hi ⟨n, B, n1, hn, wB, lB, e⟩ => ?_) fun s hs => hs) fun s ⟨n, B, n1, hn, wB, lB, e⟩ => ?_
    · subst e
      refine wss_cons (N1 := fun s => ∃ n : Nat, 1 ≤ n ∧ n ≤ 6 ∧ s = [.u, .f F G, .d (.int (n : Int)), .d (lN B), .d (.int (0 + (i : Nat))), .u]) (ws_set 2 (Re := fun d => ∃ n : Nat, 1 ≤ n ∧ n ≤ 6 ∧ d = .int (n : Int)) (we_if (dt_c (dc_lt (de_var 4) de_int))
        (fun _ => we_op op_add (Ra := fun d => d = .int 5) (Rb := fun _ d => ∃ k : Nat, k < 2 ∧ d = .int (k : Int)) de_int (fun _ _ => we_callI 1 c33 hr (by decide) rfl rfl (o6 nofun nofun nofun nofun) (da_cons de_int wa_nil) fun ds e => ⟨2, e, by decide, by decide, fun k hk => ⟨k, hk, rfl⟩⟩) fun x y ex ⟨k, hk, ey⟩ => by
          subst ex ey
          exact r2_I0 (d := .int (5 + (k : Int))) (fun _ => .int _) ⟨5 + k, by omega, by omega, by rw [Int.natCast_add]; rfl⟩)
        fun _ => we_op op_add (Ra := fun d => d = .int 1) (Rb := fun _ d => ∃ k : Nat, k < 6 ∧ d = .int (k : Int)) de_int (fun _ _ => we_callI 1 c33 hr (by decide) rfl rfl (o6 nofun nofun nofun nofun) (da_cons de_int wa_nil) fun ds e => ⟨6, e, by decide, by decide, fun k hk => ⟨k, hk, rfl⟩⟩) fun x y ex ⟨k, hk, ey⟩ => by
          subst ex ey
          exact r2_I0 (d := .int (1 + (k : Int))) (fun _ => .int _) ⟨1 + k, by omega, by omega, by rw [Int.natCast_add]; rfl⟩) (fun d ⟨n, h1, h2, e⟩ => ⟨n, h1, h2, by rw [e]; rfl⟩) hN) fun s ⟨n, n1, hn, e⟩ => ?_
      subst e
      refine wss_cons (N1 := fun s => ∃ as, Web n as ∧ as.length ≤ 10 ∧ s = [.u, .f F G, .d (.int (n : Int)), .d (lN B), .d (.int (0 + (i : Nat))), .d (lN as)]) (ws_set 5 (Re := fun d => ∃ as, Web n as ∧ as.length ≤ 10 ∧ d = lN as) (we_callI (Rs := fun ds => ∃ l : Int, ds = [.int (n : Int), .int l]) 1 c40 hr (by decide) rfl rfl (o6 nofun nofun nofun nofun)
        (WA.imp (wa_cons (Ra := fun d => d = .int (n : Int)) (Rr := fun _ r => ∃ l : Int, r = [.int l]) (de_var 2) fun _ _ => WA.imp (wa_one (Ra := fun d => ∃ l : Int, d = .int l) (we_callI 1 c34 hr (by decide) rfl rfl (o6 nofun nofun nofun nofun) (da_cons (de_lst (da_cons de_int (da_cons de_int (da_cons de_int (da_cons de_int wa_nil))))) wa_nil) fun ds e => ⟨_, e, by simp, by simp, fun d hd => by
          simp only [List.mem_cons, List.not_mem_nil, or_false] at hd
          rcases hd with z | z | z | z <;> exact ⟨_, z⟩⟩)) fun ds ⟨d, e1, l, e2⟩ => ⟨l, by rw [e1, e2]⟩) fun ds ⟨d, r, e1, e2, l, e3⟩ => ⟨l, by rw [e1, e2, e3]⟩)
        fun ds ⟨l, e⟩ => ⟨n, l, e, n1, by omega, fun as ha => ⟨as, (ia n as n1 hn ha).1, (ia n as n1 hn ha).2, rfl⟩⟩) (fun d ⟨as, h1, h2, e⟩ => ⟨as, h1, h2, by rw [e]; rfl⟩) hN) fun s ⟨as, wa, la, e⟩ => ?_
      subst e
      refine wss_cons (N1 := fun s => ∃ ms, Web n ms ∧ ms.length ≤ 15 ∧ s = [.u, .f F G, .d (.int (n : Int)), .d (lN ms), .d (.int (0 + (i : Nat))), .d (lN as)]) (ws_set 3 (Re := fun d => ∃ ms, Web n ms ∧ ms.length ≤ 15 ∧ d = lN ms) (we_callI 1 c42 hr (by decide) rfl rfl (o6 nofun nofun nofun nofun) (da_cons (de_var 2) (da_cons (de_var 5) wa_nil)) fun ds e => ⟨n, as, e, n1, hn, wa, la, fun ms h1 h2 => ⟨ms, h1, h2, rfl⟩⟩) (fun d ⟨ms, h1, h2, e⟩ => ⟨ms, h1, h2, by rw [e]; rfl⟩) hN) fun s ⟨ms, wm, lm, e⟩ => ?_
      subst e
      exact wss_one (ws_if (S := fun b => b = false) (wt_not (wt_val (we_callI (R := fun d => ∃ c, d = .bool c ∧ (!c) = false) 1 c49 hr (by decide) rfl rfl (o6 nofun nofun nofun nofun) (da_cons (de_var 2) (da_cons (de_var 5) (da_cons (de_var 3) wa_nil))) (fun ds e => ⟨n, as, ms, e, n1, hn, wa, wm, by omega, lm, true, rfl, rfl⟩) (gd := fun _ => gg)))) (fun e => by cases e) fun _ => wss_nil ⟨n, ms, n1, hn, wm, lm, rfl⟩)
    · subst e
      exact wss_one (ws_ret (we_callI (R := fun d => d = .bool true) 1 c49 hr (by decide) rfl rfl (o6 nofun nofun nofun nofun) (da_cons (de_var 2) (da_cons (de_var 3) (da_cons (de_var 3) wa_nil))) (fun ds e => ⟨n, B, B, e, n1, hn, wB, wB, lB, lB, rfl⟩) (gd := fun _ => gg)) fun d e => e)
  exact main _ _ _ en (fun _ _ _ _ _ z => z.elim) fun v σ' H' s' d _ _ dv ed => by
    subst ed
    cases dv
    exact q H'
end
end F26

/-! the law is called by the claim's caller, around whom no display is under way -/
namespace F26
open PySem PySem.Spec L2 PyProof.Rows

section
variable {P : Program} {w : World} {K : PySem.W.Frag} {mg bns : Str → Option Value} {k : Nat} {law scr : Addr} {fd : FuncData} {x : Str} {sp : Sp} {st : Shared} {items : List Value} {ns : List Int}
/-- what the call must leave -/
abbrev LawDone (st : Shared) (r : Result) (s' : Shared) : Prop := r = .ok (.ret (.bool true)) ∧ OldK st.heap s'.heap ∧ s'.os = st.os ∧ AllBare s'.gens
/-- from one tracked heap: at most the script is tracked in it, frozen -/
theorem law_one (kin : K.In st.heap) (nsm : st.heap.Ns mainGlobals mg) (nsb : st.heap.Ns builtinsNs bns) (boot : ∀ y : Str, y ≠ "__name__" → bns y = bootBuiltins y) (nolim : st.heap.NoLimit) (nog : st.gens = #[])
    (obj : st.heap.get? scr = some { cls := .type "list", data := .seq items.toArray }) (room : Room k callerA)
    (G : ∀ base : Heap, K.In base → base.Ns mainGlobals mg → FnV true P w K mg base CX0 k law fd [x] sp) (bind : ∀ (s : Shared) (u : Value), BindsTo s fd ⟨[u], []⟩ [(x, u)])
    {H : Hp} (frozen : ∀ b, H b = none ∨ ∃ o xs, H b = some (.frz o (.lst xs))) (prom : sp [.ref scr] H (fun v _ => v = .bl true) fun _ _ _ => False) (hok : HOk P w H st.heap) (only : ∀ b, H b ≠ none → b = scr) (apart : H scr ≠ none → K.lookup scr = none) :
    codeAny (model P w) callerA (.call (.ref law) ⟨[.ref scr], []⟩) (LawDone st) st := by
  have free : ∀ {b : Addr} {o : Obj}, st.heap.get? b = some o → (b = scr → False) → H b = none := fun {b o} _ ne => by
    cases e : H b with
    | none => rfl
    | some u => exact (ne (only b (by rw [e]; simp))).elim
  have into : ∀ {b : Addr} {o : Obj}, st.heap.get? b = some o → H b = none → (hidT st.heap H).get? b = some o := fun at_ no => hidT_get at_ no
  have notTab : ∀ {b : Addr} {o : Obj} {tab : Array DictEntry} {ep : Nat}, st.heap.get? b = some o → o.data = .dict tab ep → H b = none := fun {b o tab ep} at_ dat => free at_ fun e => by
    subst e
    rw [obj] at at_
    cases at_
    cases dat
  have nsIn : ∀ {b : Addr} {m : Str → Option Value}, st.heap.Ns b m → (hidT st.heap H).Ns b m := fun {b m} ⟨o, tab, ep, at_, dat, rest⟩ => ⟨o, tab, ep, into at_ (notTab at_ dat), dat, rest⟩
  have kinB : K.In (hidT st.heap H) := fun b o look => into (kin b o look) (by
    cases e : H b with
    | none => rfl
    | some u =>
      have eb := only b (by rw [e]; simp)
      subst eb
      rw [apart (by rw [e]; simp)] at look
      cases look)
  obtain ⟨lm, nl1, nl2⟩ := nolim
  have modB : Mod K mg (hidT st.heap H) := ⟨kinB, nsIn nsm, ⟨bns, nsIn nsb, boot⟩, ⟨lm, nsIn nl1, nl2⟩⟩
  have env0 : Env0 P w K mg (hidT st.heap H) callerA [] st H := ⟨rfl, modB, fun b o at_ => of_hidT at_, Nat.le_of_eq (hidT_size _ _), trivial, fun b z => absurd z List.not_mem_nil, hok, .of_eq nog⟩
  refine codeAny_mono ((G _ kinB (nsIn nsm)).run callerA [] st H ⟨[.ref scr], []⟩ [.ref scr] [.ref scr] _ _ (fun _ => rfl) room env0 (bind st (.ref scr)) (.cons rfl .nil) prom) fun res s2 done => ?_
  match res, done with
  | .error e, done => exact (show False from done).elim
  | .ok (.ret u), done =>
    obtain ⟨v, H2, osE, bareE, un, hok2, rel, isTrue⟩ := done
    have ev : v = V.bl true := isTrue
    subst ev
    have eu : u = Value.bool true := rel
    subst eu
    refine ⟨rfl, OldK.of_keep fun b o at_ => ?_, osE, bareE⟩
    cases e : H b with
    | none => exact un.keep b o at_ e (fun z => absurd z List.not_mem_nil) List.not_mem_nil
    | some u =>
      rcases frozen b with z | ⟨ob, xs, z⟩
      · rw [e] at z
        cases z
      · obtain ⟨f1, _⟩ := hok b _ z
        obtain ⟨f2, _⟩ := hok2 b _ (un.frzs b ob _ z)
        rw [at_] at f1
        cases f1
        exact f2
theorem law_callG (kin : K.In st.heap) (nsm : st.heap.Ns mainGlobals mg) (nsb : st.heap.Ns builtinsNs bns) (boot : ∀ y : Str, y ≠ "__name__" → bns y = bootBuiltins y) (nolim : st.heap.NoLimit) (nog : st.gens = #[])
    (obj : st.heap.get? scr = some { cls := .type "list", data := .seq items.toArray }) (nums : IntsAre items ns) (fit : ns.length ≤ sizeLine) (room : Room k callerA)
    (G : ∀ base : Heap, K.In base → base.Ns mainGlobals mg → FnV true P w K mg base CX0 k law fd [x] sp) (bind : ∀ (s : Shared) (u : Value), BindsTo s fd ⟨[u], []⟩ [(x, u)])
    (prom : ∀ H : Hp, SqL K H scr (ns.map V.int) → sp [.ref scr] H (fun v _ => v = .bl true) fun _ _ _ => False) : codeAny (model P w) callerA (.call (.ref law) ⟨[.ref scr], []⟩) (LawDone st) st := by
  have rel := vals_ints nums
  have same := nums.length
  cases look : K.lookup scr with
  | some ob =>
    have at_ := kin scr ob look
    rw [obj] at at_
    cases at_
    exact law_one kin nsm nsb boot nolim nog obj room G bind (H := fun _ => none) (fun _ => .inl rfl) (prom _ (.inr ⟨_, items.toArray, _, look, rfl, rfl, rfl, by rw [List.size_toArray, same]; exact fit, by simpa using rel⟩))
      (fun b u z => by cases (show (none : Option HO) = some u from z)) (fun b z => absurd rfl z) fun z => absurd rfl z
  | none =>
    let HF : Hp := fun b => if b = scr then some (.frz { cls := .type "list", data := .seq items.toArray } (.lst (ns.map V.int))) else none
    have atS : HF scr = some (.frz { cls := .type "list", data := .seq items.toArray } (.lst (ns.map V.int))) := if_pos rfl
    have off : ∀ {b : Addr}, b ≠ scr → HF b = none := fun ne => if_neg ne
    refine law_one kin nsm nsb boot nolim nog obj room G bind (H := HF) (fun b => ?_) (prom HF (.inl (.inr ⟨_, atS⟩))) (fun b u z => ?_) (fun b z => ?_) fun _ => look
    · by_cases e : b = scr
      · exact .inr ⟨_, _, by rw [e]; exact atS⟩
      · exact .inl (off e)
    · by_cases e : b = scr
      · subst e
        rw [atS] at z
        cases z
        exact ⟨obj, by rw [List.length_map]; exact fit, items, _, rel, obj⟩
      · rw [off e] at z
        cases z
    · by_cases e : b = scr
      · exact e
      · exact absurd (off e) z
end
/-- the end's goal from the law's promise -/
theorem walk_G {l : PySem.W.OpenLaw} {n k : Nat} {q : Program} {loose : List Str} {XP : (Str → Option Value) → Heap → Prop} {YP : World → Heap → Prop} {d : DefRec} {K : Params → PySem.W.Frag} {sp : World → Sp} {x : Str}
    (most : l.most = some n) (few : n ≤ sizeLine) (nodf : d.params.defaults = []) (room : Room k callerA) (written : ∀ (w : World) (h : Heap), YP w h → (K w.params).In h)
    (F : ∀ (w : World) (mg : Str → Option Value) (law : Addr) (h : Heap), (K w.params).In h → h.Ns mainGlobals mg → mg d.name = some (.ref law) →
      ∃ fd : FuncData, (∀ (s : Shared) (u : Value), BindsTo s fd ⟨[u], []⟩ [(x, u)]) ∧ ∀ base : Heap, (K w.params).In base → base.Ns mainGlobals mg → FnV true l.prog w (K w.params) mg base CX0 k law fd [x] (sp w))
    (prom : ∀ (w : World) (H : Hp) (a : Addr) (ns : List Int), ns.length ≤ n → SqL (K w.params) H a (ns.map V.int) → sp w [.ref a] H (fun v _ => v = .bl true) fun _ _ _ => False) :
    PySem.W.WalkO q loose XP YP l.row.toRowW d [] (fun f vs => PySem.call f vs) := by
  refine Att.attach_call most nodf fun w sA sB mg mb law o pm cd doc a vs ns G Y ho hd hcd hmg hobj hints hlen hg => ?_
  have kin := written w _ Y
  obtain ⟨fd, bind, hF⟩ := F w mg law _ kin G.T.g hmg
  exact law_callG kin G.T.g G.T.b G.T.builtins G.T.nolimit hg hobj hints (Nat.le_trans hlen few) room hF bind fun H hS => prom w H a ns hlen hS
end F26

/-! the defs put together (printed by gen41.py) -/
namespace F26
open PySem PySem.Spec L2

/-- a def of the module as the top has written it -/
def DefIn (K : PySem.W.Frag) (nm : Str) (st : Stmt) (f : Addr) : Prop := ∃ (oc : Value) (od : Option Addr) (kV doc pm : Value) (an : Option Addr) (cdv ct : Value) (osl : Array (Option Value)),
  PySem.W.nsIn K mainGlobals nm = some (some (.ref f)) ∧ K.lookup f = some ⟨oc, od, .func (PySem.W.fnOf nm nm (defArgs st) (defBody st) (defScope st) .none kV doc pm an cdv ct), osl⟩ ∧ PySem.W.codeIn K cdv nm = true ∧ PySem.W.keepIn K (.ref f) = true
/-- what is used of it: how its arguments bind -/
def Bnd (st : Stmt) (nm : Str) (ps : List Str) : Prop := ∀ (kV doc pm : Value) (an : Option Addr) (cdv ct : Value) (us : List Value), us.length = ps.length → bindArgs (PySem.W.fnOf nm nm (defArgs st) (defBody st) (defScope st) .none kV doc pm an cdv ct) ⟨us, []⟩ = pure (ps.zip us)
section
variable {P : Program} {w : World} {K : PySem.W.Frag} {mg : Str → Option Value} {base h : Heap}
theorem DefIn.fn {nm : Str} {st : Stmt} {f : Addr} (d : DefIn K nm st f) : ∃ fd, Fun K nm nm st f fd := by
  obtain ⟨oc, od, kV, doc, pm, an, cdv, ct, osl, a, l, c, k⟩ := d
  exact ⟨_, fun_mk l c k⟩
theorem DefIn.at {nm : Str} {st : Stmt} {f : Addr} (d : DefIn K nm st f) (X : K.In h) (G : h.Ns mainGlobals mg) : mg nm = some (.ref f) ∧ PySem.W.keepIn K (.ref f) = true := by
  obtain ⟨oc, od, kV, doc, pm, an, cdv, ct, osl, a, l, c, k⟩ := d
  exact ⟨PySem.W.mg_of X G a, k⟩
theorem DefIn.cl {g : Bool} {nm : Str} {st : Stmt} {f : Addr} {ps : List Str} {k : Nat} {sp : Sp} (d : DefIn K nm st f) (X : K.In h) (G : h.Ns mainGlobals mg) (b : Bnd st nm ps) (ok : ∀ fd, Fun K nm nm st f fd → FnV g P w K mg base CX0 k f fd ps sp) : Cl g P w K mg base k nm sp := by
  obtain ⟨fd, F⟩ := d.fn
  exact ⟨f, fd, ps, ok fd F, (d.at X G).1, (d.at X G).2, F.binds b⟩

theorem bnd5 : Bnd (top 5) "bits_of" ["lot"] := fun _ _ _ _ _ _ us hl => match us, hl with | [_], _ => rfl
theorem bnd7 : Bnd (top 7) "bits_cross" ["bits", "other"] := fun _ _ _ _ _ _ us hl => match us, hl with | [_, _], _ => rfl
theorem bnd8 : Bnd (top 8) "in_order" ["lots"] := fun _ _ _ _ _ _ us hl => match us, hl with | [_], _ => rfl
theorem bnd10 : Bnd (top 10) "halving_of" ["size", "lot"] := fun _ _ _ _ _ _ us hl => match us, hl with | [_, _], _ => rfl
theorem bnd11 : Bnd (top 11) "bits_go_together" ["bits", "other"] := fun _ _ _ _ _ _ us hl => match us, hl with | [_, _], _ => rfl
theorem bnd12 : Bnd (top 12) "go_together" ["halving", "other"] := fun _ _ _ _ _ _ us hl => match us, hl with | [_, _], _ => rfl
theorem bnd13 : Bnd (top 13) "first_cross" ["halvings"] := fun _ _ _ _ _ _ us hl => match us, hl with | [_], _ => rfl
theorem bnd15 : Bnd (top 15) "finer_web" ["web", "other"] := fun _ _ _ _ _ _ us hl => match us, hl with | [_, _], _ => rfl
theorem bnd17 : Bnd (top 17) "part_without" ["size", "halving", "leaf"] := fun _ _ _ _ _ _ us hl => match us, hl with | [_, _, _], _ => rfl
theorem bnd18 : Bnd (top 18) "rooted" ["web", "leaf"] := fun _ _ _ _ _ _ us hl => match us, hl with | [_, _], _ => rfl
theorem bnd20 : Bnd (top 20) "four_lots" ["size"] := fun _ _ _ _ _ _ us hl => match us, hl with | [_], _ => rfl
theorem bnd21 : Bnd (top 21) "word_for" ["one", "other"] := fun _ _ _ _ _ _ us hl => match us, hl with | [_, _], _ => rfl
theorem bnd22 : Bnd (top 22) "four_at" ["web", "lot"] := fun _ _ _ _ _ _ us hl => match us, hl with | [_, _], _ => rfl
theorem bnd23 : Bnd (top 23) "four_words" ["web"] := fun _ _ _ _ _ _ us hl => match us, hl with | [_], _ => rfl
theorem bnd24 : Bnd (top 24) "first_two" ["words"] := fun _ _ _ _ _ _ us hl => match us, hl with | [_], _ => rfl
theorem bnd25 : Bnd (top 25) "is_carried" ["known", "word", "leaf"] := fun _ _ _ _ _ _ us hl => match us, hl with | [_, _, _], _ => rfl
theorem bnd26 : Bnd (top 26) "four_fault" ["size", "words"] := fun _ _ _ _ _ _ us hl => match us, hl with | [_, _], _ => rfl
theorem bnd28 : Bnd (top 28) "nest_bits" ["tree"] := fun _ _ _ _ _ _ us hl => match us, hl with | [_], _ => rfl
theorem bnd29 : Bnd (top 29) "need_one_size" ["tree", "other"] := fun _ _ _ _ _ _ us hl => match us, hl with | [_, _], _ => rfl
theorem bnd30 : Bnd (top 30) "finer_pair" ["tree", "other"] := fun _ _ _ _ _ _ us hl => match us, hl with | [_, _], _ => rfl
theorem bnd32 : Bnd (top 32) "_law_fount" ["_law_script"] := fun _ _ _ _ _ _ us hl => match us, hl with | [_], _ => rfl
theorem bnd33 : Bnd (top 33) "_law_draw" ["_law_fount_here", "_law_many"] := fun _ _ _ _ _ _ us hl => match us, hl with | [_, _], _ => rfl
theorem bnd34 : Bnd (top 34) "_law_pick" ["_law_fount_here", "_law_row"] := fun _ _ _ _ _ _ us hl => match us, hl with | [_, _], _ => rfl
theorem bnd35 : Bnd (top 35) "_law_mixed" ["_law_fount_here", "_law_row"] := fun _ _ _ _ _ _ us hl => match us, hl with | [_, _], _ => rfl
theorem bnd36 : Bnd (top 36) "_law_masks" ["_law_fount_here", "_law_wide", "_law_loose"] := fun _ _ _ _ _ _ us hl => match us, hl with | [_, _, _], _ => rfl
theorem bnd37 : Bnd (top 37) "_law_part" ["_law_mask"] := fun _ _ _ _ _ _ us hl => match us, hl with | [_], _ => rfl
theorem bnd39 : Bnd (top 39) "_law_pair" ["_law_wide", "_law_masks_here"] := fun _ _ _ _ _ _ us hl => match us, hl with | [_, _], _ => rfl
theorem bnd40 : Bnd (top 40) "_law_arcs" ["_law_fount_here", "_law_wide", "_law_loose"] := fun _ _ _ _ _ _ us hl => match us, hl with | [_, _, _], _ => rfl
theorem bnd41 : Bnd (top 41) "_law_four_lots" ["_law_wide"] := fun _ _ _ _ _ _ us hl => match us, hl with | [_], _ => rfl
theorem bnd43 : Bnd (top 43) "_law_goes" ["_law_one", "_law_two"] := fun _ _ _ _ _ _ us hl => match us, hl with | [_, _], _ => rfl
theorem bnd42 : Bnd (top 42) "_law_mate" ["_law_fount_here", "_law_wide", "_law_arcs_here"] := fun _ _ _ _ _ _ us hl => match us, hl with | [_, _, _], _ => rfl
theorem bnd44 : Bnd (top 44) "_law_first_pair" ["_law_arcs_here"] := fun _ _ _ _ _ _ us hl => match us, hl with | [_], _ => rfl
theorem bnd45 : Bnd (top 45) "_law_joined" ["_law_wide", "_law_given"] := fun _ _ _ _ _ _ us hl => match us, hl with | [_, _], _ => rfl
theorem bnd46 : Bnd (top 46) "_law_gainsaid" ["_law_net", "_law_mate_here"] := fun _ _ _ _ _ _ us hl => match us, hl with | [_, _], _ => rfl
theorem bnd47 : Bnd (top 47) "_law_by_twice" ["_law_wide", "_law_said", "_law_is_against"] := fun _ _ _ _ _ _ us hl => match us, hl with | [_, _, _], _ => rfl
theorem bnd48 : Bnd (top 48) "_law_by_pairs" ["_law_wide", "_law_net", "_law_mate_here", "_law_spot", "_law_is_against"] := fun _ _ _ _ _ _ us hl => match us, hl with | [_, _, _, _, _], _ => rfl
theorem bnd49 : Bnd (top 49) "_law_by_both" ["_law_fount_here", "_law_wide", "_law_arcs_here", "_law_mates"] := fun _ _ _ _ _ _ us hl => match us, hl with | [_, _, _, _], _ => rfl
theorem bnd14 : Bnd (top 14) "web_of" ["size", "lots"] := fun _ _ _ _ _ _ us hl => match us, hl with | [_, _], _ => rfl
theorem bnd50 : Bnd (top 50) "law" ["_law_script"] := fun _ _ _ _ _ _ us hl => match us, hl with | [_], _ => rfl
theorem all_mk (ia : ∀ n ms, 1 ≤ n → n ≤ 6 → IsArcs n ms → Web n ms ∧ ms.length ≤ 10) (hF : ∀ n A B, 1 ≤ n → n ≤ 6 → Web n A → Web n B → A.length ≤ 15 → B.length ≤ 15 → ∃ ag, BB n A B ag) {C fI fa : Addr} (X : K.In h) (G : h.Ns mainGlobals mg) (hfa : mg "law" = some (.ref fa)) (bm : Bi mg) (T : PySem.CroX.CroTxt K mg C fI)
    {f5 f6 f7 f8 f10 f11 f12 f13 f14 f15 f17 f18 f20 f21 f22 f23 f24 f25 f26 f28 f29 f30 f32 f33 f34 f35 f36 f37 f38 f39 f40 f41 f42 f43 f44 f45 f46 f47 f48 f49 f50 : Addr} (d5 : DefIn K "bits_of" (top 5) f5) (d6 : DefIn K "lot_key" (top 6) f6) (d7 : DefIn K "bits_cross" (top 7) f7) (d8 : DefIn K "in_order" (top 8) f8) (d10 : DefIn K "halving_of" (top 10) f10) (d11 : DefIn K "bits_go_together" (top 11) f11) (d12 : DefIn K "go_together" (top 12) f12) (d13 : DefIn K "first_cross" (top 13) f13) (d14 : DefIn K "web_of" (top 14) f14) (d15 : DefIn K "finer_web" (top 15) f15) (d17 : DefIn K "part_without" (top 17) f17) (d18 : DefIn K "rooted" (top 18) f18) (d20 : DefIn K "four_lots" (top 20) f20) (d21 : DefIn K "word_for" (top 21) f21) (d22 : DefIn K "four_at" (top 22) f22) (d23 : DefIn K "four_words" (top 23) f23) (d24 : DefIn K "first_two" (top 24) f24) (d25 : DefIn K "is_carried" (top 25) f25) (d26 : DefIn K "four_fault" (top 26) f26) (d28 : DefIn K "nest_bits" (top 28) f28) (d29 : DefIn K "need_one_size" (top 29) f29) (d30 : DefIn K "finer_pair" (top 30) f30) (d32 : DefIn K "_law_fount" (top 32) f32) (d33 : DefIn K "_law_draw" (top 33) f33) (d34 : DefIn K "_law_pick" (top 34) f34) (d35 : DefIn K "_law_mixed" (top 35) f35) (d36 : DefIn K "_law_masks" (top 36) f36) (d37 : DefIn K "_law_part" (top 37) f37) (d38 : DefIn K "_law_rank" (top 38) f38) (d39 : DefIn K "_law_pair" (top 39) f39) (d40 : DefIn K "_law_arcs" (top 40) f40) (d41 : DefIn K "_law_four_lots" (top 41) f41) (d42 : DefIn K "_law_mate" (top 42) f42) (d43 : DefIn K "_law_goes" (top 43) f43) (d44 : DefIn K "_law_first_pair" (top 44) f44) (d45 : DefIn K "_law_joined" (top 45) f45) (d46 : DefIn K "_law_gainsaid" (top 46) f46) (d47 : DefIn K "_law_by_twice" (top 47) f47) (d48 : DefIn K "_law_by_pairs" (top 48) f48) (d49 : DefIn K "_law_by_both" (top 49) f49) (d50 : DefIn K "law" (top 50) f50) :
    ∃ fd : FuncData, (∀ (s : Shared) (u : Value), BindsTo s fd ⟨[u], []⟩ [("_law_script", u)]) ∧ ∀ base : Heap, K.In base → base.Ns mainGlobals mg → FnV true P w K mg base CX0 9 fa fd ["_law_script"] (spL K) := by
  have e := hfa.symm.trans (d50.at X G).1
  cases e
  obtain ⟨fd, F50⟩ := d50.fn
  refine ⟨fd, fun s u => ?_, fun base _ _ => ?_⟩
  · obtain ⟨oc, od, kV, doc, pm, an, cdv, ct, osl, rfl, l, c⟩ := F50.ex
    exact .of_eq rfl
  have k6 : KeyCl P w K mg base "lot_key" f6 := by
    obtain ⟨fd, F⟩ := d6.fn
    exact key6 F (d6.at X G).1 bm
  have k38 : KeyCl P w K mg base "_law_rank" f38 := by
    obtain ⟨fd, F⟩ := d38.fn
    exact key38 F (d38.at X G).1 bm
  have c5 : Cl false P w K mg base 1 "bits_of" (spP pmBits) := d5.cl X G bnd5 fun fd F => ok5 F
  have c7 : Cl false P w K mg base 1 "bits_cross" (spP pmCross) := d7.cl X G bnd7 fun fd F => ok7 F
  have c11 : Cl false P w K mg base 1 "bits_go_together" (spP pmGo) := d11.cl X G bnd11 fun fd F => ok11 F
  have c43 : Cl false P w K mg base 1 "_law_goes" (spP pmGo) := d43.cl X G bnd43 fun fd F => ok43 F
  have c10 : Cl false P w K mg base 1 "halving_of" (spP pmHalf) := d10.cl X G bnd10 fun fd F => ok10 F bm
  have c15 : Cl false P w K mg base 1 "finer_web" (spP pmFW) := d15.cl X G bnd15 fun fd F => ok15 F bm
  have c17 : Cl false P w K mg base 1 "part_without" (spP pmWo) := d17.cl X G bnd17 fun fd F => ok17 F bm
  have c20 : Cl false P w K mg base 1 "four_lots" (spP pmFL) := d20.cl X G bnd20 fun fd F => ok20 F bm
  have c21 : Cl false P w K mg base 1 "word_for" (spP pmWF) := d21.cl X G bnd21 fun fd F => ok21 F bm
  have c24 : Cl false P w K mg base 1 "first_two" (spP pmF2) := d24.cl X G bnd24 fun fd F => ok24 F bm
  have c29 : Cl false P w K mg base 1 "need_one_size" (spP pmOne) := d29.cl X G bnd29 fun fd F => ok29 F
  have c33 : Cl false P w K mg base 1 "_law_draw" (spI pmDraw) := d33.cl X G bnd33 fun fd F => ok33 F bm
  have c37 : Cl false P w K mg base 1 "_law_part" (spP pmPart) := d37.cl X G bnd37 fun fd F => ok37 F bm
  have c41 : Cl false P w K mg base 1 "_law_four_lots" (spP pmGL) := d41.cl X G bnd41 fun fd F => ok41 F bm
  have c32 : Cl false P w K mg base 1 "_law_fount" (spFt K) := d32.cl X G bnd32 fun fd F => ok32 F bm
  have c8 : Cl false P w K mg base 4 "in_order" (spP pmOrd) := d8.cl X G bnd8 fun fd F => ok8 F bm k6
  have c12 : Cl false P w K mg base 2 "go_together" (spP pmGoT) := d12.cl X G bnd12 fun fd F => ok12 F c5 c11
  have c13 : Cl false P w K mg base 2 "first_cross" (spP pmFC) := d13.cl X G bnd13 fun fd F => ok13 F bm c5 c11
  have c18 : Cl false P w K mg base 5 "rooted" (spP pmRt) := d18.cl X G bnd18 fun fd F => ok18 F bm c17 c8
  have c22 : Cl false P w K mg base 2 "four_at" (spP pmFA) := d22.cl X G bnd22 fun fd F => ok22 F bm c21
  have c23 : Cl false P w K mg base 3 "four_words" (spP pmFWs) := d23.cl X G bnd23 fun fd F => ok23 F bm c20 c22
  have c25 : Cl false P w K mg base 2 "is_carried" (spP pmIC) := d25.cl X G bnd25 fun fd F => ok25 F c21
  have c26 : Cl false P w K mg base 3 "four_fault" (spP pmFF) := d26.cl X G bnd26 fun fd F => ok26 F bm c24 c25
  have c28 : Cl false P w K mg base 2 "nest_bits" (spP pmNB) := d28.cl X G bnd28 fun fd F => ok28 F c5
  have c30 : Cl false P w K mg base 3 "finer_pair" (spP pmFP) := d30.cl X G bnd30 fun fd F => ok30 F bm c7 c28 c29
  have c34 : Cl false P w K mg base 2 "_law_pick" (spI pmPick) := d34.cl X G bnd34 fun fd F => ok34 F bm c33
  have c35 : Cl false P w K mg base 2 "_law_mixed" (spI pmMix) := d35.cl X G bnd35 fun fd F => ok35 F bm c33
  have c36 : Cl false P w K mg base 3 "_law_masks" (spI pmMasks) := d36.cl X G bnd36 fun fd F => ok36 F bm c33 c34
  have c39 : Cl false P w K mg base 4 "_law_pair" (spP pmPair) := d39.cl X G bnd39 fun fd F => ok39 F bm c37 k38
  have c40 : Cl false P w K mg base 4 "_law_arcs" (spI pmArcs) := d40.cl X G bnd40 fun fd F => ok40 F c36
  have c42 : Cl false P w K mg base 5 "_law_mate" (spI pmMate) := d42.cl X G bnd42 fun fd F => ok42 ia F bm c33 c34 c37 c40 c43
  have c44 : Cl false P w K mg base 4 "_law_first_pair" (spP pmFst) := d44.cl X G bnd44 fun fd F => ok44 F bm c37 c43 k38
  obtain ⟨fW, F14⟩ := d14.fn
  have GW := ok14 (P := P) (w := w) (base := base) F14 T c10 c8 c13
  have mW := (d14.at X G).1
  have kW := (d14.at X G).2
  have bW := F14.binds bnd14
  have c45 : Cl false P w K mg base 7 "_law_joined" (spP pmJ) := d45.cl X G bnd45 fun fd F => ok45 F bm T GW mW kW bW
  have c46 : Cl false P w K mg base 3 "_law_gainsaid" (spP pmGs) := d46.cl X G bnd46 fun fd F => ok46 F c41 c22
  have c47 : Cl true P w K mg base 4 "_law_by_twice" (spP pmBT) := d47.cl X G bnd47 fun fd F => ok47 F bm c26
  have c48 : Cl false P w K mg base 6 "_law_by_pairs" (spP pmBP) := d48.cl X G bnd48 fun fd F => ok48 F c12 c18 c30
  have c49 : Cl true P w K mg base 8 "_law_by_both" (spI pmBB) := d49.cl X G bnd49 fun fd F => ok49 hF F bm c33 c35 c39 c45 c46 c23 c47 c48 c44 c15
  exact ok50 ia F50 bm c32 c33 c34 c40 c42 c49
end
end F26

/-! plain law: the masks, the facts about halvings that the kernel finds -/
namespace F26
open PySem PySem.Spec L2

/-! ### words, to compute with -/
def wf2 (xs ys : List Int) : List Int := if (isrt xs).headD 0 < (isrt ys).headD 0 then isrt xs ++ isrt ys else isrt ys ++ isrt xs
theorem wf2_eq (xs ys : List Int) : wordFor xs ys = wf2 xs ys := by unfold wordFor wf2; rw [msI, msI]
def wd2 (k q : List Int) : List Int := wf2 (ins k q) (q.filter fun x => !decide (x ∈ ins k q))
theorem wd2_eq (k q : List Int) : wdH k q = wd2 k q := wf2_eq _ _
def hvs (n : Nat) : List Nat := (List.range 64).filter (hv n)
theorem mem_hvs {n m : Nat} (hn : n ≤ 6) (h : hv n m = true) : m ∈ hvs n := by
  unfold hvs
  rw [List.mem_filter, List.mem_range]
  exact ⟨ev_lt hn (hv_ev h), h⟩
def spl (k q : List Int) : Bool := decide ((ins k q).length = 2)
def chk1 (n a : Nat) : Bool :=
  (match partOf a with
   | x :: y :: r => decide (x ≠ 0) && decide (r.length + 4 ≤ n)
   | _ => false) && decide (bitsOf (partOf a) = (a : Int)) && decide (sumP (partOf a) = (a : Int)) && (partOf a).all fun x => decide (0 ≤ x) && decide (x < (n : Int))
theorem K1 : ∀ n < 7, ∀ a ∈ hvs n, chk1 n a = true := by decide +kernel
/-- of two halvings that go together: one word a lot; of two that do not: a lot with two words -/
def chk2 (n a b : Nat) : Bool :=
  let pa := partOf a
  let pb := partOf b
  if goN a b = true then (gl n).all fun q => !(spl pa q && spl pb q) || decide (wd2 pa q = wd2 pb q)
  else (gl n).any fun q => spl pa q && spl pb q && !decide (wd2 pa q = wd2 pb q)
theorem K2 : ∀ n < 7, ∀ a ∈ hvs n, ∀ b ∈ hvs n, chk2 n a b = true := by decide +kernel
def nst (n a sp : Nat) : List Int := (partWo n (partOf a) (sp : Int)).map (relab (sp : Int))
def chk3 (n a b : Nat) : Bool := (List.range n).all fun sp => decide (crossB (bitsOf (nst n a sp)) (bitsOf (nst n b sp)) = !goN a b)
theorem K3 : ∀ n < 7, ∀ a ∈ hvs n, ∀ b ∈ hvs n, chk3 n a b = true := by decide +kernel
def chk4 (n a : Nat) : Bool := (List.range n).all fun sp => !crossB (bitsOf (nst n a sp)) (bitsOf (rangeI (n - 1))) && !crossB (bitsOf (rangeI (n - 1))) (bitsOf (nst n a sp))
theorem K4 : ∀ n < 7, ∀ a ∈ hvs n, chk4 n a = true := by decide +kernel
theorem K4' : ∀ n < 7, crossB (bitsOf (rangeI (n - 1))) (bitsOf (rangeI (n - 1))) = false := by decide +kernel
def chk5 (n a : Nat) : Bool := (gl n).all fun q => !spl (partOf a) q || (decide ((wd2 (partOf a) q).length = 4) && ((wd2 (partOf a) q).all fun x => decide (0 ≤ x) && decide (x < 64)) && decide (isrt (wd2 (partOf a) q) = q))
theorem K5 : ∀ n < 7, ∀ a ∈ hvs n, chk5 n a = true := by decide +kernel
theorem K6 : ∀ n < 7, (∀ q ∈ fourLots n, q ∈ gl n) ∧ ∀ q ∈ gl n, q ∈ fourLots n := by decide +kernel
theorem K7 : ∀ m ∈ hvs 1, False := by decide +kernel
/-! ### the masks -/
def pc (m : Nat) : Nat := (partOf m).length
def mok (n m : Nat) : Bool := decide (m < 2 ^ n) && decide (2 ≤ pc m)
def mks (n : Nat) : List Nat := (List.range 32).filter (mok n)
def spots (n : Nat) : List Nat := mks n ++ (List.range n).map (2 ^ ·)
theorem mem_mks {n m : Nat} (hn : n ≤ 5) (h : mok n m = true) : m ∈ mks n := by
  unfold mks
  rw [List.mem_filter, List.mem_range]
  refine ⟨?_, h⟩
  unfold mok at h
  rw [Bool.and_eq_true] at h
  have h1 := of_decide_eq_true h.1
  have : 2 ^ n ≤ 2 ^ 5 := Nat.pow_le_pow_right (by decide) hn
  omega
def ca1 (n s a : Nat) : Bool := mok (n + 1) (stA s (2 ^ n) a) && mok (n + 1) (stB s (2 ^ n) a) && mok (n + 1) (s ||| 2 ^ n) && (!goN a s || (goN (stB s (2 ^ n) a) (s ||| 2 ^ n) && !decide (stB s (2 ^ n) a = s ||| 2 ^ n)))
theorem M1 : ∀ n < 5, ∀ s ∈ spots n, ∀ a ∈ mks n, ca1 n s a = true := by decide +kernel
theorem M1' : ∀ n < 5, ∀ s ∈ spots n, mok (n + 1) (s ||| 2 ^ n) = true := by decide +kernel
def ca2 (n s a b : Nat) : Bool := !(goN a b && !decide (a = b) && goN a s && goN b s) || (goN (stA s (2 ^ n) a) (stA s (2 ^ n) b) && !decide (stA s (2 ^ n) a = stA s (2 ^ n) b) && goN (stB s (2 ^ n) a) (stB s (2 ^ n) b) && !decide (stB s (2 ^ n) a = stB s (2 ^ n) b))
theorem M2 : ∀ n < 5, ∀ s ∈ spots n, ∀ a ∈ mks n, ∀ b ∈ mks n, ca2 n s a b = true := by decide +kernel
theorem M3 : ∀ n < 5, ∀ k < n, ∀ a ∈ mks n, goN a (2 ^ k) = true := by decide +kernel
theorem goN_self (a : Nat) : goN a a = true := by unfold goN; rw [Nat.and_self]; simp
theorem M4 : ∀ n < 7, ∀ m ∈ mks (max (n - 1) 1), (!decide (m = 2 ^ (n - 1) - 1)) = true → hv n (2 * m) = true := by decide +kernel
theorem M5 : ∀ a < 32, ∀ b < 32, goN a b = true → goN (2 * a) (2 * b) = true := by decide +kernel
/-- of a list whose items go together in pairs any two do -/
theorem pw_all : ∀ {l : List Nat}, l.Pairwise (fun a b => goN a b = true ∧ a ≠ b) → ∀ x ∈ l, ∀ y ∈ l, goN x y = true
  | [], _, x, hx, _, _ => by cases hx
  | z :: l, hp, x, hx, y, hy => by
    obtain ⟨p1, p2⟩ := List.pairwise_cons.mp hp
    rcases List.mem_cons.mp hx with ex | hx
    · rcases List.mem_cons.mp hy with ey | hy
      · rw [ex, ey]; exact goN_self z
      · rw [ex]; exact (p1 y hy).1
    · rcases List.mem_cons.mp hy with ey | hy
      · rw [ey, goN_symm]; exact (p1 x hx).1
      · exact pw_all p2 x hx y hy
theorem rch_ok {n : Nat} {ms : List Nat} (h : Rch n ms) : n ≤ 5 → (∀ m ∈ ms, mok n m = true) ∧ ms.Pairwise fun a b => goN a b = true ∧ a ≠ b := by
  induction h with
  | nil => intro _; exact ⟨fun m hm => (nomatch hm), .nil⟩
  | @a n ms s h hs ih =>
    intro hn
    obtain ⟨i1, i2⟩ := ih (by omega)
    have gs : ∀ m ∈ ms, goN m s = true := fun m hm => pw_all i2 m hm s hs
    have hsp : s ∈ spots n := List.mem_append_left _ (mem_mks (by omega) (i1 s hs))
    refine ⟨fun m hm => ?_, ?_⟩
    · obtain ⟨x, hx, rfl⟩ := List.mem_map.mp hm
      have := M1 n (by omega) s hsp x (mem_mks (by omega) (i1 x hx))
      unfold ca1 at this
      simp only [Bool.and_eq_true] at this
      exact this.1.1.1
    · rw [List.pairwise_map]
      refine i2.imp_of_mem fun {a b} ha hb hab => ?_
      have := M2 n (by omega) s hsp a (mem_mks (by omega) (i1 a ha)) b (mem_mks (by omega) (i1 b hb))
      unfold ca2 at this
      simp only [hab.1, gs a ha, gs b hb, decide_eq_false hab.2, Bool.not_false, Bool.and_self, Bool.not_true, Bool.false_or, Bool.and_eq_true, Bool.not_eq_true', decide_eq_false_iff_not] at this
      exact ⟨this.1.1.1, this.1.1.2⟩
  | @b n ms s h hs ih =>
    intro hn
    obtain ⟨i1, i2⟩ := ih (by omega)
    have gs : ∀ m ∈ ms, goN m s = true := fun m hm => by
      rcases hs with hs | ⟨k, hk, rfl⟩
      · exact pw_all i2 m hm s hs
      · exact M3 n (by omega) k hk m (mem_mks (by omega) (i1 m hm))
    have hsp : s ∈ spots n := by
      rcases hs with hs | ⟨k, hk, rfl⟩
      · exact List.mem_append_left _ (mem_mks (by omega) (i1 s hs))
      · exact List.mem_append_right _ (List.mem_map.mpr ⟨k, List.mem_range.mpr hk, rfl⟩)
    have f1 : ∀ x ∈ ms, ca1 n s x = true := fun x hx => M1 n (by omega) s hsp x (mem_mks (by omega) (i1 x hx))
    refine ⟨fun m hm => ?_, List.pairwise_append.mpr ⟨?_, List.pairwise_singleton _ _, fun a ha b hb => ?_⟩⟩
    · rcases List.mem_append.mp hm with z | z
      · obtain ⟨x, hx, rfl⟩ := List.mem_map.mp z
        have := f1 x hx
        unfold ca1 at this
        simp only [Bool.and_eq_true] at this
        exact this.1.1.2
      · rw [List.mem_singleton.mp z]
        exact M1' n (by omega) s hsp
    · rw [List.pairwise_map]
      refine i2.imp_of_mem fun {a b} ha hb hab => ?_
      have := M2 n (by omega) s hsp a (mem_mks (by omega) (i1 a ha)) b (mem_mks (by omega) (i1 b hb))
      unfold ca2 at this
      simp only [hab.1, gs a ha, gs b hb, decide_eq_false hab.2, Bool.not_false, Bool.and_self, Bool.not_true, Bool.false_or, Bool.and_eq_true, Bool.not_eq_true', decide_eq_false_iff_not] at this
      exact ⟨this.1.2, this.2⟩
    · rw [List.mem_singleton.mp hb]
      obtain ⟨x, hx, rfl⟩ := List.mem_map.mp ha
      have := f1 x hx
      unfold ca1 at this
      simp only [gs x hx, Bool.not_true, Bool.false_or, Bool.and_eq_true, Bool.not_eq_true', decide_eq_false_iff_not] at this
      exact this.2
theorem arcs_web (n : Nat) (ms : List Nat) (n1 : 1 ≤ n) (hn : n ≤ 6) (h : IsArcs n ms) : Web n ms ∧ ms.length ≤ 10 := by
  obtain ⟨ks, hr, rfl⟩ := h
  have hm5 : max (n - 1) 1 ≤ 5 := by omega
  obtain ⟨i1, i2⟩ := rch_ok hr hm5
  have hl := hr.len
  have lt : ∀ m ∈ ks, m < 32 := fun m hm => by
    have := mem_mks hm5 (i1 m hm)
    unfold mks at this
    exact List.mem_range.mp (List.mem_filter.mp this).1
  refine ⟨⟨fun m hm => ?_, ?_⟩, ?_⟩
  · obtain ⟨x, hx, rfl⟩ := List.mem_map.mp hm
    obtain ⟨x1, x2⟩ := List.mem_filter.mp hx
    exact M4 n (by omega) x (mem_mks hm5 (i1 x x1)) x2
  · rw [List.pairwise_map]
    refine (i2.sublist List.filter_sublist).imp_of_mem fun {a b} ha hb hab => ?_
    exact ⟨M5 a (lt a (List.mem_filter.mp ha).1) b (lt b (List.mem_filter.mp hb).1) hab.1, fun z => hab.2 (by omega)⟩
  · rw [List.length_map]
    have := List.length_filter_le (fun m => !decide (m = 2 ^ (n - 1) - 1)) ks
    omega
end F26

/-! plain law: two webs, by both -/
namespace F26
open PySem PySem.Spec L2

section
variable {n : Nat} {a b : Nat} {A B : List Nat} {q : List Int}
theorem k1 (hn : n ≤ 6) (h : hv n a = true) : (∃ x r, partOf a = x :: r ∧ x ≠ 0 ∧ 1 ≤ r.length ∧ r.length + 3 ≤ n) ∧ bitsOf (partOf a) = (a : Int) ∧ sumP (partOf a) = (a : Int) ∧ ∀ x ∈ partOf a, 0 ≤ x ∧ x < (n : Int) := by
  have := K1 n (by omega) a (mem_hvs hn h)
  unfold chk1 at this
  rw [Bool.and_eq_true, Bool.and_eq_true, Bool.and_eq_true] at this
  obtain ⟨⟨⟨h1, h2⟩, h3⟩, h4⟩ := this
  refine ⟨?_, of_decide_eq_true h2, of_decide_eq_true h3, fun x hx => ?_⟩
  · split at h1
    · rename_i x y r e
      rw [Bool.and_eq_true] at h1
      refine ⟨x, y :: r, e, of_decide_eq_true h1.1, by simp, ?_⟩
      have := of_decide_eq_true h1.2
      simp only [List.length_cons]
      omega
    · cases h1
  · have := List.all_eq_true.mp h4 x hx
    rw [Bool.and_eq_true] at this
    exact ⟨of_decide_eq_true this.1, of_decide_eq_true this.2⟩
theorem part_inj (hn : n ≤ 6) (ha : hv n a = true) (hb : hv n b = true) (e : partOf a = partOf b) : a = b := by
  have h1 := (k1 hn ha).2.1
  have h2 := (k1 hn hb).2.1
  rw [e, h2] at h1
  exact (Int.ofNat.inj h1).symm
theorem k2 (hn : n ≤ 6) (ha : hv n a = true) (hb : hv n b = true) (g : goN a b = true) (hq : q ∈ gl n) (sa : spl (partOf a) q = true) (sb : spl (partOf b) q = true) : wdH (partOf a) q = wdH (partOf b) q := by
  have := K2 n (by omega) a (mem_hvs hn ha) b (mem_hvs hn hb)
  unfold chk2 at this
  simp only [g, if_true] at this
  have h1 := List.all_eq_true.mp this q hq
  rw [sa, sb] at h1
  rw [wd2_eq, wd2_eq]
  simpa using h1
theorem k2' (hn : n ≤ 6) (ha : hv n a = true) (hb : hv n b = true) (g : goN a b = false) : ∃ q ∈ gl n, spl (partOf a) q = true ∧ spl (partOf b) q = true ∧ wdH (partOf a) q ≠ wdH (partOf b) q := by
  have := K2 n (by omega) a (mem_hvs hn ha) b (mem_hvs hn hb)
  unfold chk2 at this
  simp only [g, Bool.false_eq_true, if_false] at this
  obtain ⟨q, hq, h1⟩ := List.any_eq_true.mp this
  rw [Bool.and_eq_true, Bool.and_eq_true] at h1
  refine ⟨q, hq, h1.1.1, h1.1.2, ?_⟩
  rw [wd2_eq, wd2_eq]
  simpa using h1.2
theorem k5 (hn : n ≤ 6) (ha : hv n a = true) (hq : q ∈ gl n) (sa : spl (partOf a) q = true) : (wdH (partOf a) q).length = 4 ∧ small (wdH (partOf a) q) ∧ srtI (wdH (partOf a) q) = q := by
  have := K5 n (by omega) a (mem_hvs hn ha)
  unfold chk5 at this
  have h1 := List.all_eq_true.mp this q hq
  rw [sa, Bool.not_true, Bool.false_or, Bool.and_eq_true, Bool.and_eq_true] at h1
  rw [wd2_eq]
  unfold srtI
  rw [msI]
  refine ⟨of_decide_eq_true h1.1.1, fun x hx => ?_, of_decide_eq_true h1.2⟩
  have := List.all_eq_true.mp h1.1.2 x hx
  rw [Bool.and_eq_true] at this
  exact ⟨of_decide_eq_true this.1, of_decide_eq_true this.2⟩
theorem fa (hn : n ≤ 6) (wA : Web n A) (hq : q ∈ gl n) (w : List Int) : fourAt (srtP A) q = some w ↔ ∃ a ∈ A, spl (partOf a) q = true ∧ wdH (partOf a) q = w := by
  unfold fourAt
  constructor
  · intro h
    obtain ⟨k, hk, e⟩ := Option.map_eq_some_iff.mp h
    obtain ⟨m, hm, rfl⟩ := mem_srtP.mp (List.mem_of_find?_eq_some hk)
    have sm : decide ((ins (partOf m) q).length = 2) = true := List.find?_some (p := fun k => decide ((ins k q).length = 2)) hk
    exact ⟨m, hm, sm, e⟩
  · rintro ⟨a, ha, sa, e⟩
    cases hf : (srtP A).find? (fun k => decide ((ins k q).length = 2)) with
    | none =>
      have := List.find?_eq_none.mp hf (partOf a) (mem_srtP.mpr ⟨a, ha, rfl⟩)
      exact absurd sa this
    | some k =>
      obtain ⟨m, hm, rfl⟩ := mem_srtP.mp (List.mem_of_find?_eq_some hf)
      have sm : decide ((ins (partOf m) q).length = 2) = true := List.find?_some (p := fun k => decide ((ins k q).length = 2)) hf
      show some (wdH (partOf m) q) = some w
      rw [← e, k2 hn (wA.hv m hm) (wA.hv a ha) (pw_all wA.go m hm a ha) hq sm sa]
theorem mem_words (hn : n ≤ 6) (wA : Web n A) (k : List Int) : k ∈ wordsOf n (srtP A) ↔ ∃ q ∈ gl n, ∃ a ∈ A, spl (partOf a) q = true ∧ wdH (partOf a) q = k := by
  unfold wordsOf
  rw [List.mem_filterMap]
  constructor
  · rintro ⟨q, hq, e⟩
    have hg := (K6 n (by omega)).1 q hq
    exact ⟨q, hg, (fa hn wA hg k).mp e⟩
  · rintro ⟨q, hq, h⟩
    exact ⟨q, (K6 n (by omega)).2 q hq, (fa hn wA hq k).mpr h⟩
def agB (A B : List Nat) : Bool := A.any fun a => B.any fun b => !goN a b
theorem ag_f (h : agB A B = false) : ∀ a ∈ A, ∀ b ∈ B, goN a b = true := fun a ha b hb => by
  have h1 := List.any_eq_false.mp h a ha
  have h2 := List.any_eq_false.mp (Bool.eq_false_iff.mpr h1) b hb
  simpa using h2
theorem ag_t (h : agB A B = true) : ∃ a ∈ A, ∃ b ∈ B, goN a b = false := by
  obtain ⟨a, ha, h1⟩ := List.any_eq_true.mp h
  obtain ⟨b, hb, h2⟩ := List.any_eq_true.mp h1
  exact ⟨a, ha, b, hb, by simpa using h2⟩
theorem ag_of (ha : a ∈ A) (hb : b ∈ B) (g : goN a b = false) : agB A B = true := List.any_eq_true.mpr ⟨a, ha, List.any_eq_true.mpr ⟨b, hb, by rw [g]; rfl⟩⟩
theorem nodup_web (wA : Web n A) : A.Nodup := wA.go.imp fun h => h.2
theorem uni_hv (wA : Web n A) (wB : Web n B) : ∀ m ∈ uni A B, hv n m = true := fun m hm => (mem_uni.mp hm).elim (wA.hv m) (wB.hv m)
theorem uni_nodup (wA : Web n A) (wB : Web n B) : (uni A B).Nodup := by
  unfold uni
  rw [List.nodup_append]
  exact ⟨nodup_web wA, (nodup_web wB).sublist List.filter_sublist, fun a ha b hb e => by
    have := (List.mem_filter.mp hb).2
    rw [← e, decide_eq_true ha] at this
    cases this⟩
theorem uni_web (wA : Web n A) (wB : Web n B) (h : agB A B = false) : Web n (uni A B) := by
  refine ⟨uni_hv wA wB, ?_⟩
  unfold uni
  refine List.pairwise_append.mpr ⟨wA.go, wB.go.sublist List.filter_sublist, fun a ha b hb => ?_⟩
  obtain ⟨h1, h2⟩ := List.mem_filter.mp hb
  exact ⟨ag_f h a ha b h1, fun e => by rw [← e, decide_eq_true ha] at h2; cases h2⟩
theorem srtP_perm (A : List Nat) : (srtP A).Perm (A.map partOf) := List.mergeSort_perm _ _
theorem map_nodup {U : List Nat} (hn : n ≤ 6) (hU : ∀ m ∈ U, hv n m = true) (nd : U.Nodup) : (U.map partOf).Nodup := by
  rw [List.Nodup, List.pairwise_map]
  exact nd.imp_of_mem fun {a b} ha hb ne e => ne (part_inj hn (hU a ha) (hU b hb) e)
end
theorem both_ok (n : Nat) (A B : List Nat) (n1 : 1 ≤ n) (hn : n ≤ 6) (wA : Web n A) (wB : Web n B) (lA : A.length ≤ 15) (lB : B.length ≤ 15) : ∃ ag, BB n A B ag := by
  have hU := uni_hv wA wB
  have ndU := uni_nodup wA wB
  have hmem : ∀ {C : List Nat}, Web n C → ∀ k ∈ srtP C, ∃ m ∈ C, hv n m = true ∧ partOf m = k := fun {C} wC k hk => by
    obtain ⟨m, hm, e⟩ := mem_srtP.mp hk
    exact ⟨m, hm, wC.hv m hm, e⟩
  have Mperm : ((srtP (uni A B)).map sumP).Perm ((uni A B).map Int.ofNat) := by
    have h1 := (srtP_perm (uni A B)).map sumP
    rw [List.map_map] at h1
    have e : (uni A B).map (sumP ∘ partOf) = (uni A B).map Int.ofNat := List.map_congr_left fun m hm => (k1 hn (hU m hm)).2.2.1
    rw [e] at h1
    exact h1
  have inM : ∀ {x : Int}, x ∈ (srtP (uni A B)).map sumP → ∃ m ∈ uni A B, x = (m : Int) := fun {x} hx => by
    obtain ⟨m, hm, e⟩ := List.mem_map.mp (Mperm.mem_iff.mp hx)
    exact ⟨m, hm, e.symm⟩
  have Mat : ∀ m ∈ uni A B, ∃ i, ((srtP (uni A B)).map sumP)[i]? = some (m : Int) := fun m hm => by
    have : (m : Int) ∈ (srtP (uni A B)).map sumP := Mperm.mem_iff.mpr (List.mem_map.mpr ⟨m, hm, rfl⟩)
    obtain ⟨i, hi, e⟩ := List.getElem_of_mem this
    exact ⟨i, by rw [List.getElem?_eq_getElem hi, e]⟩
  have wordAB : ∀ k, (k ∈ wordsOf n (srtP A) ∨ k ∈ wordsOf n (srtP B)) → ∃ q ∈ gl n, ∃ a, (a ∈ A ∨ a ∈ B) ∧ hv n a = true ∧ spl (partOf a) q = true ∧ wdH (partOf a) q = k := fun k hk => by
    rcases hk with z | z
    · obtain ⟨q, hq, a, ha, h1, h2⟩ := (mem_words hn wA k).mp z
      exact ⟨q, hq, a, .inl ha, wA.hv a ha, h1, h2⟩
    · obtain ⟨q, hq, a, ha, h1, h2⟩ := (mem_words hn wB k).mp z
      exact ⟨q, hq, a, .inr ha, wB.hv a ha, h1, h2⟩
  have bel : ∀ {C : List Nat}, Web n C → C.length ≤ 15 → below n (srtP C) := fun {C} wC lC => ⟨by rw [srtP_len]; omega, fun k hk => by
    obtain ⟨m, hm, hv', rfl⟩ := hmem wC k hk
    exact ⟨partOf_len m, (k1 hn hv').2.2.2⟩⟩
  have nestM : ∀ {C : List Nat} (sp : Nat) (k : List Int), k ∈ inOrd (nestsOf n (srtP C) (sp : Int)) ↔ (∃ m ∈ C, nst n m sp = k) ∨ (2 < n ∧ k = rangeI (n - 1)) := fun {C} sp k => by
    rw [mem_inOrd]
    unfold nestsOf
    rw [List.mem_append, List.mem_map]
    constructor
    · rintro (⟨y, hy, e⟩ | z)
      · obtain ⟨m, hm, rfl⟩ := mem_srtP.mp hy
        exact .inl ⟨m, hm, e⟩
      · split at z
        · rename_i h2
          exact .inr ⟨h2, List.mem_singleton.mp z⟩
        · cases z
    · rintro (⟨m, hm, e⟩ | ⟨h2, e⟩)
      · exact .inl ⟨partOf m, mem_srtP.mpr ⟨m, hm, rfl⟩, e⟩
      · exact .inr (by rw [if_pos h2, e]; exact List.mem_singleton_self _)
  refine ⟨agB A B, ⟨fun k hk => ?_, fun ls pm => ?_, ?_, fun hag => ?_, fun hag hall => ?_, ?_, fun k hk => ?_, ?_, bel wA lA, bel wB lB, ?_, fun n2 sp hsp => ?_, fun hn1 => ?_, fun hag k hk => ?_⟩⟩
  · -- hk
    have : ∃ m, hv n m = true ∧ partOf m = k := by
      rcases List.mem_append.mp hk with z | z
      · obtain ⟨m, _, h1, h2⟩ := hmem wA k z
        exact ⟨m, h1, h2⟩
      · obtain ⟨m, _, h1, h2⟩ := hmem wB k z
        exact ⟨m, h1, h2⟩
    obtain ⟨m, h1, rfl⟩ := this
    obtain ⟨x, r, e, e1, e2, e3⟩ := (k1 hn h1).1
    exact ⟨x, r, e, e1, e2, e3, partOf_small m⟩
  · -- io
    unfold inOrd srtP
    refine ordR.sort_perm ?_
    refine (List.perm_ext_iff_of_nodup (ddK_nodup ls) (map_nodup hn hU ndU)).mpr fun k => ?_
    rw [mem_ddK, pm.mem_iff, List.mem_append, mem_srtP, mem_srtP, List.mem_map]
    constructor
    · rintro (⟨m, hm, e⟩ | ⟨m, hm, e⟩)
      · exact ⟨m, mem_uni.mpr (.inl hm), e⟩
      · exact ⟨m, mem_uni.mpr (.inr hm), e⟩
    · rintro ⟨m, hm, e⟩
      rcases mem_uni.mp hm with z | z
      · exact .inl ⟨m, z, e⟩
      · exact .inr ⟨m, z, e⟩
  · -- bs
    refine List.map_congr_left fun k hk => ?_
    obtain ⟨m, hm, rfl⟩ := mem_srtP.mp hk
    rw [(k1 hn (hU m hm)).2.1, (k1 hn (hU m hm)).2.2.1]
  · -- al
    intro i j x y _ hx hy
    obtain ⟨a, ha, rfl⟩ := inM (List.mem_of_getElem? hx)
    obtain ⟨b, hb, rfl⟩ := inM (List.mem_of_getElem? hy)
    rw [goB_nat]
    exact pw_all (uni_web wA wB hag).go a ha b hb
  · -- nal
    obtain ⟨a, ha, b, hb, g⟩ := ag_t hag
    obtain ⟨i, hi⟩ := Mat a (mem_uni.mpr (.inl ha))
    obtain ⟨j, hj⟩ := Mat b (mem_uni.mpr (.inr hb))
    rcases Nat.lt_trichotomy i j with z | z | z
    · have := hall i j _ _ z hi hj
      rw [goB_nat, g] at this
      cases this
    · subst z
      rw [hi] at hj
      have := Int.ofNat.inj (Option.some.inj hj)
      rw [this, goN_self] at g
      cases g
    · have := hall j i _ _ z hj hi
      rw [goB_nat, goN_symm, g] at this
      cases this
  · -- gs
    constructor
    · intro h
      cases e : agB A B with
      | false => rfl
      | true =>
        obtain ⟨a, ha, b, hb, g⟩ := ag_t e
        obtain ⟨q, hq, sa, sb, ne⟩ := k2' hn (wA.hv a ha) (wB.hv b hb) g
        have h1 := List.filter_eq_nil_iff.mp h q hq
        unfold difW at h1
        rw [(fa hn wA hq _).mpr ⟨a, ha, sa, rfl⟩, (fa hn wB hq _).mpr ⟨b, hb, sb, rfl⟩] at h1
        exact absurd (by simpa using ne) h1
    · intro h
      rw [List.filter_eq_nil_iff]
      intro q hq z
      unfold difW at z
      cases e1 : fourAt (srtP A) q with
      | none => rw [e1] at z; cases z
      | some w1 =>
        cases e2 : fourAt (srtP B) q with
        | none => rw [e1, e2] at z; cases z
        | some w2 =>
          rw [e1, e2] at z
          obtain ⟨a, ha, sa, ea⟩ := (fa hn wA hq w1).mp e1
          obtain ⟨b, hb, sb, eb⟩ := (fa hn wB hq w2).mp e2
          have := k2 hn (wA.hv a ha) (wB.hv b hb) (ag_f h a ha b hb) hq sa sb
          rw [← ea, ← eb, this] at z
          simp at z
  · -- w4
    obtain ⟨q, hq, a, _, h1, h2, rfl⟩ := wordAB k hk
    exact ⟨(k5 hn h1 hq h2).1, (k5 hn h1 hq h2).2.1⟩
  · -- tw
    constructor
    · intro hag
      obtain ⟨a, ha, b, hb, g⟩ := ag_t hag
      obtain ⟨q, hq, sa, sb, ne⟩ := k2' hn (wA.hv a ha) (wB.hv b hb) g
      exact ⟨_, _, .inl ((mem_words hn wA _).mpr ⟨q, hq, a, ha, sa, rfl⟩), .inr ((mem_words hn wB _).mpr ⟨q, hq, b, hb, sb, rfl⟩), fun z => ne z.symm, by rw [(k5 hn (wA.hv a ha) hq sa).2.2, (k5 hn (wB.hv b hb) hq sb).2.2]⟩
    · rintro ⟨x, y, hx, hy, ne, es⟩
      obtain ⟨q, hq, a, hab, h1, h2, rfl⟩ := wordAB x hx
      obtain ⟨q', hq', b, hbb, h1', h2', rfl⟩ := wordAB y hy
      rw [(k5 hn h1 hq h2).2.2, (k5 hn h1' hq' h2').2.2] at es
      subst es
      have g : goN a b = false := by
        cases g : goN a b with
        | false => rfl
        | true => exact absurd (k2 hn h1 h1' g hq h2 h2').symm ne
      rcases hab with ha | ha <;> rcases hbb with hb | hb
      · rw [pw_all wA.go a ha b hb] at g; cases g
      · exact ag_of ha hb g
      · exact ag_of hb ha (by rw [goN_symm]; exact g)
      · rw [pw_all wB.go a ha b hb] at g; cases g
  · -- ax
    unfold anyX
    rw [Bool.eq_iff_iff]
    constructor
    · intro h
      obtain ⟨k, hk, h1⟩ := List.any_eq_true.mp h
      obtain ⟨l, hl, h2⟩ := List.any_eq_true.mp h1
      obtain ⟨a, ha, va, rfl⟩ := hmem wA k hk
      obtain ⟨b, hb, vb, rfl⟩ := hmem wB l hl
      rw [(k1 hn va).2.1, (k1 hn vb).2.1, goB_nat] at h2
      exact ag_of ha hb (by simpa using h2)
    · intro h
      obtain ⟨a, ha, b, hb, g⟩ := ag_t h
      refine List.any_eq_true.mpr ⟨partOf a, mem_srtP.mpr ⟨a, ha, rfl⟩, List.any_eq_true.mpr ⟨partOf b, mem_srtP.mpr ⟨b, hb, rfl⟩, ?_⟩⟩
      rw [(k1 hn (wA.hv a ha)).2.1, (k1 hn (wB.hv b hb)).2.1, goB_nat, g]
      rfl
  · -- ac
    have c3 : ∀ a b, hv n a = true → hv n b = true → crossB (bitsOf (nst n a sp)) (bitsOf (nst n b sp)) = !goN a b := fun a b ha hb => by
      have := K3 n (by omega) a (mem_hvs hn ha) b (mem_hvs hn hb)
      unfold chk3 at this
      exact of_decide_eq_true (List.all_eq_true.mp this sp (List.mem_range.mpr hsp))
    have c4 : ∀ a, hv n a = true → crossB (bitsOf (nst n a sp)) (bitsOf (rangeI (n - 1))) = false ∧ crossB (bitsOf (rangeI (n - 1))) (bitsOf (nst n a sp)) = false := fun a ha => by
      have := K4 n (by omega) a (mem_hvs hn ha)
      unfold chk4 at this
      have h1 := List.all_eq_true.mp this sp (List.mem_range.mpr hsp)
      rw [Bool.and_eq_true] at h1
      exact ⟨by simpa using h1.1, by simpa using h1.2⟩
    unfold anyC
    rw [Bool.eq_iff_iff]
    constructor
    · intro h
      obtain ⟨k, hk, h1⟩ := List.any_eq_true.mp h
      obtain ⟨l, hl, h2⟩ := List.any_eq_true.mp h1
      rcases (nestM sp k).mp hk with ⟨a, ha, rfl⟩ | ⟨_, rfl⟩ <;> rcases (nestM sp l).mp hl with ⟨b, hb, rfl⟩ | ⟨_, rfl⟩
      · rw [c3 a b (wA.hv a ha) (wB.hv b hb)] at h2
        exact ag_of ha hb (by simpa using h2)
      · rw [(c4 a (wA.hv a ha)).1] at h2; cases h2
      · rw [(c4 b (wB.hv b hb)).2] at h2; cases h2
      · rw [K4' n (by omega)] at h2; cases h2
    · intro h
      obtain ⟨a, ha, b, hb, g⟩ := ag_t h
      exact List.any_eq_true.mpr ⟨nst n a sp, (nestM sp _).mpr (.inl ⟨a, ha, rfl⟩), List.any_eq_true.mpr ⟨nst n b sp, (nestM sp _).mpr (.inl ⟨b, hb, rfl⟩), by rw [c3 a b (wA.hv a ha) (wB.hv b hb), g]; rfl⟩⟩
  · -- n1
    cases e : agB A B with
    | false => rfl
    | true =>
      obtain ⟨a, ha, _⟩ := ag_t e
      have e1 : n = 1 := by omega
      subst e1
      exact (K7 a (mem_hvs hn (wA.hv a ha))).elim
  · -- ms
    have wU := uni_web wA wB hag
    obtain ⟨q, hq, a, hab, _, h2, rfl⟩ := wordAB k hk
    exact (mem_words hn wU _).mpr ⟨q, hq, a, mem_uni.mpr hab, h2, rfl⟩
end F26

/-! the end (printed by gen42.py) -/
namespace F26
open PySem PySem.Spec L2
section
variable {K : PySem.W.Frag} {mg : Str → Option Value} {h : Heap}
theorem bi_mk (X : K.In h) (G : h.Ns mainGlobals mg) (b0 : PySem.W.nsIn K mainGlobals "len" = some none) (b1 : PySem.W.nsIn K mainGlobals "tuple" = some none) (b2 : PySem.W.nsIn K mainGlobals "sorted" = some none) (b3 : PySem.W.nsIn K mainGlobals "list" = some none) (b4 : PySem.W.nsIn K mainGlobals "dict" = some none) (b5 : PySem.W.nsIn K mainGlobals "range" = some none) (b6 : PySem.W.nsIn K mainGlobals "all" = some none) (b7 : PySem.W.nsIn K mainGlobals "sum" = some none) (b8 : PySem.W.nsIn K mainGlobals "set" = some none) (b9 : PySem.W.nsIn K mainGlobals "enumerate" = some none) (b10 : PySem.W.nsIn K mainGlobals "int" = some none) (b11 : PySem.W.nsIn K mainGlobals "isinstance" = some none) (b12 : PySem.W.nsIn K mainGlobals "repr" = some none) : Bi mg := fun x hx => by
  unfold bi at hx
  rcases List.mem_cons.mp hx with z | hx
  · rw [z]; exact PySem.W.mg_none_of X G b0
  rcases List.mem_cons.mp hx with z | hx
  · rw [z]; exact PySem.W.mg_none_of X G b1
  rcases List.mem_cons.mp hx with z | hx
  · rw [z]; exact PySem.W.mg_none_of X G b2
  rcases List.mem_cons.mp hx with z | hx
  · rw [z]; exact PySem.W.mg_none_of X G b3
  rcases List.mem_cons.mp hx with z | hx
  · rw [z]; exact PySem.W.mg_none_of X G b4
  rcases List.mem_cons.mp hx with z | hx
  · rw [z]; exact PySem.W.mg_none_of X G b5
  rcases List.mem_cons.mp hx with z | hx
  · rw [z]; exact PySem.W.mg_none_of X G b6
  rcases List.mem_cons.mp hx with z | hx
  · rw [z]; exact PySem.W.mg_none_of X G b7
  rcases List.mem_cons.mp hx with z | hx
  · rw [z]; exact PySem.W.mg_none_of X G b8
  rcases List.mem_cons.mp hx with z | hx
  · rw [z]; exact PySem.W.mg_none_of X G b9
  rcases List.mem_cons.mp hx with z | hx
  · rw [z]; exact PySem.W.mg_none_of X G b10
  rcases List.mem_cons.mp hx with z | hx
  · rw [z]; exact PySem.W.mg_none_of X G b11
  rcases List.mem_cons.mp hx with z | hx
  · rw [z]; exact PySem.W.mg_none_of X G b12
  cases hx
theorem defIn_mk {nm : Str} {st : Stmt} {f : Addr} {oc : Value} {od : Option Addr} {kV doc pm : Value} {an : Option Addr} {cdv ct : Value} {osl : Array (Option Value)} (a : PySem.W.nsIn K mainGlobals nm = some (some (.ref f))) (l : K.lookup f = some ⟨oc, od, .func (PySem.W.fnOf nm nm (defArgs st) (defBody st) (defScope st) .none kV doc pm an cdv ct), osl⟩)
    (c : PySem.W.codeIn K cdv nm = true) (k : PySem.W.keepIn K (.ref f) = true) : DefIn K nm st f := ⟨oc, od, kV, doc, pm, an, cdv, ct, osl, a, l, c, k⟩
/-- an error of the class at S is what «except S» names -/
theorem exm_self {S : Addr} (h1 : PySem.W.subIn K (.ref S) (.type "BaseException") = some true) (h2 : PySem.W.isClsIn K S = true) (h3 : PySem.W.typeIn K (.ref S) = some (.type "type")) (h4 : PySem.W.subIn K (.ref S) (.ref S) = some true) :
    PySem.W.exmOne K (.ref S) (.ref S) = some true := by
  have e1 : (PySem.W.subIn K (.ref S) (.type "BaseException") == some true) = true := by rw [h1] <;> rfl
  have e2 : ((PySem.W.clsIn K S).isSome && PySem.W.typeIn K (.ref S) == some (.type "type")) = true := by
    have h2' : (PySem.W.clsIn K S).isSome = true := h2
    rw [h2', h3] <;> rfl
  show (if (PySem.W.subIn K (.ref S) (.type "BaseException") == some true) = true then (if ((PySem.W.clsIn K S).isSome && PySem.W.typeIn K (.ref S) == some (.type "type")) = true then PySem.W.subIn K (.ref S) (.ref S) else none) else none) = some true
  rw [if_pos e1, if_pos e2]
  exact h4
theorem cro_mk {C D fI : Addr} (X : K.In h) (G : h.Ns mainGlobals mg) {nm q : Str} {N : Addr} {bs : List Value} {sn : List Str} {sub : List Value} {ab : Bool} {col : Option Bool} {dd : Option Addr} {m0 m1 m2 m3 m5 : Option Value} {od1 an1 : Option Addr} {sl1 : Array (Option Value)} {oc1 dc1 pm1 cd1 ct1 : Value}
    (aC : PySem.W.nsIn K mainGlobals "Cross" = some (some (.ref C)))
    (xL : K.lookup C = some (PySem.excClassObj nm q C N bs [.ref D, .type "ValueError", .type "Exception", .type "BaseException", .type "object"] true sn sub ab col dd m0 m1 m2 m3 m5 "ValueError.__new__"))
    (sa : PySem.W.findIn K (.ref C) "__setattr__" = some (some (.builtin "object.__setattr__"))) (ga : PySem.W.findIn K (.ref C) "__getattribute__" = some (some (.builtin "BaseException.__getattribute__"))) (gg : PySem.W.findIn K (.ref C) "__getattr__" = some none) (nb : PySem.W.findIn K (.ref C) "pair" = some none)
    (a1 : PySem.W.findIn K (.ref C) "__init__" = some (some (.ref fI))) (t1 : PySem.W.typeIn K (.ref fI) = some (.type "function"))
    (l1 : K.lookup fI = some ⟨oc1, od1, .func (PySem.W.fnOf "__init__" "Cross.__init__" (PySem.CroX.iA ⟨8, 17, 8, 21⟩ ⟨8, 23, 8, 27⟩) (PySem.CroX.iB ⟨9, 8, 9, 12⟩ ⟨9, 8, 9, 17⟩ ⟨9, 20, 9, 24⟩ ⟨9, 8, 9, 24⟩) PySem.CroX.iS .none .none dc1 pm1 an1 cd1 ct1), sl1⟩) (c1 : PySem.W.codeIn K cd1 "Cross.__init__" = true)
    (kC : PySem.W.keepIn K (.ref C) = true) (eC : PySem.W.subIn K (.ref C) (.type "BaseException") = some true) (tC : PySem.W.typeIn K (.ref C) = some (.type "type")) (hC : PySem.W.hasDictIn K C = true) (iC : PySem.W.isClsIn K C = true) (sC : PySem.W.subIn K (.ref C) (.ref C) = some true) : PySem.CroX.CroTxt K mg C fI :=
  { gC := PySem.W.mg_of X G aC, cls := ⟨nm, q, N, bs, _, sn, sub, ab, col, dd, m0, m1, m2, m3, m5, xL, rfl⟩, sa := sa, ga := ga, gg := gg, noN := nb, iC := a1, tC := t1, kC := kC, exC := eC, tyC := tC, hdC := hC, te := exm_self eC iC tC sC,
    fn := ⟨_, _, _, _, _, _, _, _, _, _, _, _, _, _, l1, c1⟩ }
end
end F26
open PySem PySem.W PyProof.Rows
set_option maxRecDepth 100000 in
set_option maxHeartbeats 0 in
theorem PySem.Challenge.cw_forktold_k26_whole_webs_that_go_together_holds : PySem.Challenge.rw_forktold_k26_whole_webs_that_go_together.Holds := by
  w_on; o_law; k_head; (case hw => w_witness2)
  k_fill
  refine F26.walk_G (l := PySem.Challenge.rw_forktold_k26_whole_webs_that_go_together) (k := 9) (x := "_law_script") (sp := fun w => F26.spL _) rfl (by decide) rfl ⟨rfl, by decide, by decide⟩ (fun w h Y => PySem.W.kIn_of Y) ?F (fun w H a ns hl hS => ⟨a, ns, rfl, hS, hl, fun _ => rfl⟩)
  case F =>
    intro w mg fa h KX G hmg
    have bm : F26.Bi mg := by
      refine' F26.bi_mk KX G ?b0 ?b1 ?b2 ?b3 ?b4 ?b5 ?b6 ?b7 ?b8 ?b9 ?b10 ?b11 ?b12
      (case b0 => k_is)
      (case b1 => k_is)
      (case b2 => k_is)
      (case b3 => k_is)
      (case b4 => k_is)
      (case b5 => k_is)
      (case b6 => k_is)
      (case b7 => k_is)
      (case b8 => k_is)
      (case b9 => k_is)
      (case b10 => k_is)
      (case b11 => k_is)
      (case b12 => k_is)
    refine' F26.all_mk (F26.arcs_web) (F26.both_ok) KX G hmg bm (F26.cro_mk KX G ?aC ?xL ?sa ?ga ?gg ?nb ?a1 ?t1 ?l1 ?c1 ?kC ?eC ?tC ?hC ?iC ?sC) ?d5 ?d6 ?d7 ?d8 ?d10 ?d11 ?d12 ?d13 ?d14 ?d15 ?d17 ?d18 ?d20 ?d21 ?d22 ?d23 ?d24 ?d25 ?d26 ?d28 ?d29 ?d30 ?d32 ?d33 ?d34 ?d35 ?d36 ?d37 ?d38 ?d39 ?d40 ?d41 ?d42 ?d43 ?d44 ?d45 ?d46 ?d47 ?d48 ?d49 ?d50
    (case aC => k_is)
    (case xL => k_is)
    (case sa => k_is)
    (case ga => k_is)
    (case gg => k_is)
    (case nb => k_is)
    (case a1 => k_is)
    (case t1 => k_is)
    (case l1 => k_is)
    (case c1 => k_is)
    (case kC => k_is)
    (case eC => k_is)
    (case tC => k_is)
    (case hC => k_is)
    (case iC => k_is)
    (case sC => first | rfl | k_is)
    (case d5 => refine' F26.defIn_mk ?a ?l ?c ?k; (case a => k_is); (case l => k_is); (case c => k_is); (case k => k_is))
    (case d6 => refine' F26.defIn_mk ?a ?l ?c ?k; (case a => k_is); (case l => k_is); (case c => k_is); (case k => k_is))
    (case d7 => refine' F26.defIn_mk ?a ?l ?c ?k; (case a => k_is); (case l => k_is); (case c => k_is); (case k => k_is))
    (case d8 => refine' F26.defIn_mk ?a ?l ?c ?k; (case a => k_is); (case l => k_is); (case c => k_is); (case k => k_is))
    (case d10 => refine' F26.defIn_mk ?a ?l ?c ?k; (case a => k_is); (case l => k_is); (case c => k_is); (case k => k_is))
    (case d11 => refine' F26.defIn_mk ?a ?l ?c ?k; (case a => k_is); (case l => k_is); (case c => k_is); (case k => k_is))
    (case d12 => refine' F26.defIn_mk ?a ?l ?c ?k; (case a => k_is); (case l => k_is); (case c => k_is); (case k => k_is))
    (case d13 => refine' F26.defIn_mk ?a ?l ?c ?k; (case a => k_is); (case l => k_is); (case c => k_is); (case k => k_is))
    (case d14 => refine' F26.defIn_mk ?a ?l ?c ?k; (case a => k_is); (case l => k_is); (case c => k_is); (case k => k_is))
    (case d15 => refine' F26.defIn_mk ?a ?l ?c ?k; (case a => k_is); (case l => k_is); (case c => k_is); (case k => k_is))
    (case d17 => refine' F26.defIn_mk ?a ?l ?c ?k; (case a => k_is); (case l => k_is); (case c => k_is); (case k => k_is))
    (case d18 => refine' F26.defIn_mk ?a ?l ?c ?k; (case a => k_is); (case l => k_is); (case c => k_is); (case k => k_is))
    (case d20 => refine' F26.defIn_mk ?a ?l ?c ?k; (case a => k_is); (case l => k_is); (case c => k_is); (case k => k_is))
    (case d21 => refine' F26.defIn_mk ?a ?l ?c ?k; (case a => k_is); (case l => k_is); (case c => k_is); (case k => k_is))
    (case d22 => refine' F26.defIn_mk ?a ?l ?c ?k; (case a => k_is); (case l => k_is); (case c => k_is); (case k => k_is))
    (case d23 => refine' F26.defIn_mk ?a ?l ?c ?k; (case a => k_is); (case l => k_is); (case c => k_is); (case k => k_is))
    (case d24 => refine' F26.defIn_mk ?a ?l ?c ?k; (case a => k_is); (case l => k_is); (case c => k_is); (case k => k_is))
    (case d25 => refine' F26.defIn_mk ?a ?l ?c ?k; (case a => k_is); (case l => k_is); (case c => k_is); (case k => k_is))
    (case d26 => refine' F26.defIn_mk ?a ?l ?c ?k; (case a => k_is); (case l => k_is); (case c => k_is); (case k => k_is))
    (case d28 => refine' F26.defIn_mk ?a ?l ?c ?k; (case a => k_is); (case l => k_is); (case c => k_is); (case k => k_is))
    (case d29 => refine' F26.defIn_mk ?a ?l ?c ?k; (case a => k_is); (case l => k_is); (case c => k_is); (case k => k_is))
    (case d30 => refine' F26.defIn_mk ?a ?l ?c ?k; (case a => k_is); (case l => k_is); (case c => k_is); (case k => k_is))
    (case d32 => refine' F26.defIn_mk ?a ?l ?c ?k; (case a => k_is); (case l => k_is); (case c => k_is); (case k => k_is))
    (case d33 => refine' F26.defIn_mk ?a ?l ?c ?k; (case a => k_is); (case l => k_is); (case c => k_is); (case k => k_is))
    (case d34 => refine' F26.defIn_mk ?a ?l ?c ?k; (case a => k_is); (case l => k_is); (case c => k_is); (case k => k_is))
    (case d35 => refine' F26.defIn_mk ?a ?l ?c ?k; (case a => k_is); (case l => k_is); (case c => k_is); (case k => k_is))
    (case d36 => refine' F26.defIn_mk ?a ?l ?c ?k; (case a => k_is); (case l => k_is); (case c => k_is); (case k => k_is))
    (case d37 => refine' F26.defIn_mk ?a ?l ?c ?k; (case a => k_is); (case l => k_is); (case c => k_is); (case k => k_is))
    (case d38 => refine' F26.defIn_mk ?a ?l ?c ?k; (case a => k_is); (case l => k_is); (case c => k_is); (case k => k_is))
    (case d39 => refine' F26.defIn_mk ?a ?l ?c ?k; (case a => k_is); (case l => k_is); (case c => k_is); (case k => k_is))
    (case d40 => refine' F26.defIn_mk ?a ?l ?c ?k; (case a => k_is); (case l => k_is); (case c => k_is); (case k => k_is))
    (case d41 => refine' F26.defIn_mk ?a ?l ?c ?k; (case a => k_is); (case l => k_is); (case c => k_is); (case k => k_is))
    (case d42 => refine' F26.defIn_mk ?a ?l ?c ?k; (case a => k_is); (case l => k_is); (case c => k_is); (case k => k_is))
    (case d43 => refine' F26.defIn_mk ?a ?l ?c ?k; (case a => k_is); (case l => k_is); (case c => k_is); (case k => k_is))
    (case d44 => refine' F26.defIn_mk ?a ?l ?c ?k; (case a => k_is); (case l => k_is); (case c => k_is); (case k => k_is))
    (case d45 => refine' F26.defIn_mk ?a ?l ?c ?k; (case a => k_is); (case l => k_is); (case c => k_is); (case k => k_is))
    (case d46 => refine' F26.defIn_mk ?a ?l ?c ?k; (case a => k_is); (case l => k_is); (case c => k_is); (case k => k_is))
    (case d47 => refine' F26.defIn_mk ?a ?l ?c ?k; (case a => k_is); (case l => k_is); (case c => k_is); (case k => k_is))
    (case d48 => refine' F26.defIn_mk ?a ?l ?c ?k; (case a => k_is); (case l => k_is); (case c => k_is); (case k => k_is))
    (case d49 => refine' F26.defIn_mk ?a ?l ?c ?k; (case a => k_is); (case l => k_is); (case c => k_is); (case k => k_is))
    (case d50 => refine' F26.defIn_mk ?a ?l ?c ?k; (case a => k_is); (case l => k_is); (case c => k_is); (case k => k_is))
#print axioms PySem.Challenge.cw_forktold_k26_whole_webs_that_go_together_holds
