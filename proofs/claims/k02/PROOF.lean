import PyProof.Rows.All
import Wide.All
import OpenK.AllK
import Wide.FinOn
import KE.GoesNew
import HandS.Base
import HandS.Call
import HandS.List
import HandS.Iter
import HandS.Zip
import HandS.Comp
import HandS.Dict
import HandS.Text
import HandS.Ends
import HandS.Words
import HandS.Deep
import HandS.TupAny
import HandS.Evl
import HandS.More
import HandS.WordsExc
import HandS.Defaults
import HandS.HeadHook1
import HandS.HeadHook2
import HandS.Star
import KE.SortData
import KE.KDictKeyed
import HandS.DictComp
import KE.KDictSum
import HandS.Conv
import HandS.DictTup
import HandS.ListItems
import PyProof.DictCompW
import HandS.IsInst
import HandS.Small
import HandS.Exc
import PyProof.Rows.SeqMore
import HandS.SetKeys
import HandS.Style
import HandS.Flow
import HandS.Nested
import HandS.NestedK
import HandS.ExcSuper
import KE.KSuper
import KE.KSuperObj
import HandS.Wide
import HandS.TupMul
import PyProof.Rows.TupDisplay
import HandS.DictSubView
import PyProof.ConsumeWalk
import PyProof.TupleIter
import HandS.Set
import HandS.SetFor
import HandS.TupSets
import HandS.TryOnly
import HandS.ExcOwn
import HandS.Lambda
import KE.KStateDown
import Lean
import HandS.Head0
import HandS.Head1
import HandS.Head2
import HandS.HeadEnd
import HandS.HeadHook4
import PySem.Challenge.RW_allbrokers_k02_whole_least_falls
set_option Elab.async false
set_option linter.all false
set_option maxRecDepth 100000
set_option maxHeartbeats 4000000
/-! ### zip of two things, each a list or a tuple -/
namespace K02
open PySem PySem.Spec PyProof.Rows L2

/-- a list (t = false) or a tuple (t = true) -/
def SqB (K : PySem.W.Frag) (H : Hp) (t : Bool) (a : Addr) (xs : List V) : Prop := match t with
  | false => SqL K H a xs
  | true => SqT K H a xs
def ItB (h : Heap) (t : Bool) (it a : Addr) (i : Nat) : Prop := match t with
  | false => h.IsListIter it a i
  | true => h.IsTupleIter it a i
def SeB (h : Heap) (t : Bool) (a : Addr) (its : Array Value) : Prop := match t with
  | false => h.IsList a its
  | true => h.IsTuple a its
theorem ItB.at {h h' : Heap} {t : Bool} {it a : Addr} {i : Nat} (x : ItB h t it a i) (k : ∀ o, h.get? it = some o → h'.get? it = some o) : ItB h' t it a i := by
  cases t with
  | false => exact Heap.IsListIter.at x k
  | true => exact Heap.IsTupleIter.at x k
theorem ItB.obj {h : Heap} {t : Bool} {it a : Addr} {i : Nat} (x : ItB h t it a i) : ∃ o vs, h.get? it = some o ∧ o.data = .fields vs := by
  cases t with
  | false =>
    obtain ⟨o, e, _, d⟩ := (show h.IsListIter it a i from x)
    exact ⟨o, _, e, d⟩
  | true =>
    obtain ⟨o, e, _, d⟩ := (show h.IsTupleIter it a i from x)
    exact ⟨o, _, e, d⟩
section
variable {X : Cx} {pins : List (Addr × Obj)} {σ : L2.St} {H : Hp} {s : Shared} {t : Bool} {a b : Addr} {xs ys : List V}
theorem sqB_get (I : Inv X pins σ H s) (h : SqB X.K H t a xs) : ∃ its : List Value, Vals xs its ∧ SeB s.heap t a its.toArray ∧ xs.length ≤ sizeLine := by
  cases t with
  | false =>
    obtain ⟨its, r, p, z⟩ := I.list h
    exact ⟨its, r, p.isList, z⟩
  | true =>
    obtain ⟨its, r, p, z⟩ := I.tuple h
    exact ⟨its, r, p, z⟩
theorem sqB_inj (I : Inv X pins σ H s) (h : SqB X.K H t a xs) (h' : SqB X.K H t a ys) : xs = ys := by
  cases t with
  | false => exact I.list_inj h h'
  | true => exact I.tuple_inj h h'
theorem sqB_there (h : SqB X.K H t a xs) : (∃ u, H a = some u) ∨ ∃ o, X.K.lookup a = some o := by
  cases t with
  | false =>
    rcases (show SqL X.K H a xs from h) with (h | ⟨o, h⟩) | ⟨o, _, _, h, _⟩
    · exact .inl ⟨_, h⟩
    · exact .inl ⟨_, h⟩
    · exact .inr ⟨_, h⟩
  | true =>
    rcases (show SqT X.K H a xs from h) with (h | ⟨o, h⟩) | ⟨o, _, _, h, _⟩
    · exact .inl ⟨_, h⟩
    · exact .inl ⟨_, h⟩
    · exact .inr ⟨_, h⟩
/-- what is read is none of an iterator's own records -/
theorem sqB_ne (I : Inv X pins σ H s) (h : SqB X.K H t a xs) (f : FpOk X pins H b) : b ≠ a := by
  intro e
  subst e
  rcases sqB_there h with ⟨u, hu⟩ | ⟨o, ho⟩
  · rw [f.1] at hu
    cases hu
  · have hb := I.ok.mod.kin b o ho
    rcases f.2.2.2.1 with z | z
    · exact I.ok.noex b o hb z
    · exact absurd (Nat.lt_of_lt_of_le (Heap.lt_size hb) (Nat.le_trans I.ok.bsz z)) (Nat.lt_irrefl _)
end
theorem drawB {prog : Program} {w : World} {A : Around} (hh : A.handled = none) (t : Bool) (it l : Addr) (hne : l ≠ it) (items : Array Value) :
    Draws prog w A it [it, l] items.size (fun i v => items[i]? = some v) (fun i h => ItB h t it l i ∧ SeB h t l items) := by
  cases t with
  | false => exact Draws.list hh it l hne items
  | true => exact Draws.tuple hh it l hne items

/-- the things at a and b as they stand at each turn, the items in new pairs -/
def ItzM (K : PySem.W.Frag) (ta tb : Bool) (a b : Addr) : It :=
  ⟨fun i H => ∃ (xs ys : List V) (x y : V), SqB K H ta a xs ∧ SqB K H tb b ys ∧ xs[i]? = some x ∧ ys[i]? = some y,
    fun i H v H' => ∃ T x y, v = .ref T ∧ H T = none ∧ H' = upd H T (.tup [x, y]) ∧ (∀ xs, SqB K H ta a xs → xs[i]? = some x) ∧ ∀ ys, SqB K H tb b ys → ys[i]? = some y,
    fun i H => ∃ xs ys : List V, SqB K H ta a xs ∧ SqB K H tb b ys ∧ i = min xs.length ys.length⟩
structure Zst (ta tb : Bool) (a b z TI TO i1 i2 : Addr) (i : Nat) (h : Heap) : Prop where
  z : IsZip h z TI TO .none
  TI : IsTupOf2 h TI (.ref i1) (.ref i2)
  TO : ∃ x y, IsTupOf2 h TO x y
  i1 : ItB h ta i1 a i
  i2 : ItB h tb i2 b i
/-- the five records stand apart -/
structure Zap (z TI TO i1 i2 : Addr) : Prop where
  TIz : TI ≠ z
  TOz : TO ≠ z
  TITO : TI ≠ TO
  TIi1 : TI ≠ i1
  TIi2 : TI ≠ i2
  zi1 : z ≠ i1
  zi2 : z ≠ i2
  Ti1 : TO ≠ i1
  Ti2 : TO ≠ i2
  i12 : i1 ≠ i2
theorem turn_zipM {P : Program} {w : World} {K : PySem.W.Frag} {elts : List Expr} {kk : Nat} {tpos : Pos} {ta tb : Bool} {a b z TI TO i1 i2 : Addr} (D : Zap z TI TO i1 i2) :
    Turn P w K (.Tuple elts kk tpos) (ItzM K ta tb a b) [z, TI, TO, i1, i2] z (fun i h => Zst ta tb a b z TI TO i1 i2 i h) where
  mem := by simp
  obj := fun i h st c hc => by
    obtain ⟨hz, hTI, ⟨x, y, hTO⟩, h1, h2⟩ := st
    obtain ⟨o1, v1, e1, d1⟩ := h1.obj
    obtain ⟨o2, v2, e2, d2⟩ := h2.obj
    have e' : c = z ∨ c = TI ∨ c = TO ∨ c = i1 ∨ c = i2 := by simpa using hc
    rcases e' with rfl | rfl | rfl | rfl | rfl
    · exact ⟨_, hz, fun v q => nomatch q⟩
    · exact ⟨_, hTI, fun v q => nomatch q⟩
    · exact ⟨_, hTO, fun v q => nomatch q⟩
    · exact ⟨o1, e1, fun v q => by rw [d1] at q; cases q⟩
    · exact ⟨o2, e2, fun v q => by rw [d2] at q; cases q⟩
  keep := fun i h h' st k => by
    obtain ⟨hz, hTI, ⟨x, y, hTO⟩, h1, h2⟩ := st
    exact ⟨k z (by simp) _ hz, k TI (by simp) _ hTI, ⟨x, y, k TO (by simp) _ hTO⟩, h1.at fun o q => k i1 (by simp) o q, h2.at fun o q => k i2 (by simp) o q⟩
  item := by
    intro X hP hw hK hc i pins s σ H E I hf st hg
    subst hP hw hK
    obtain ⟨xs, ys, x, y, hqx, hqy, hx, hy⟩ := hg
    obtain ⟨its, rv, p, _⟩ := sqB_get I hqx
    obtain ⟨its2, rv2, p2, _⟩ := sqB_get I hqy
    obtain ⟨u, hu, ru⟩ := rv.get hx
    obtain ⟨u2, hu2, ru2⟩ := rv2.get hy
    have hd : X.A.in1.handled = none := I.ok.hd hc
    have na : ∀ c ∈ [z, TI, TO, i1, i2], c ≠ a := fun c hcm => sqB_ne I hqx (hf c hcm)
    have nb : ∀ c ∈ [z, TI, TO, i1, i2], c ≠ b := fun c hcm => sqB_ne I hqy (hf c hcm)
    have S : ZipSep2 z TI TO i1 i2 [i1, a] [i2, b] :=
      ⟨D.TIz, D.TOz, D.TITO, D.TIi1, by simp, by simp [D.zi1, na z (by simp)], by simp [D.Ti1, na TO (by simp)], D.TIi2, by simp, by simp [D.zi2, nb z (by simp)], by simp [D.Ti2, nb TO (by simp)],
        by simp [D.i12, nb i1 (by simp)], by simp [D.i12.symm, na i2 (by simp)]⟩
    have W := GoesN.zip2 (prog := X.prog) (w := X.w) (A := X.A) (elts := elts) (x1 := kk) (pos := tpos) S (drawB hd ta i1 a (na i1 (by simp)).symm its.toArray) (drawB hd tb i2 b (nb i2 (by simp)).symm its2.toArray)
    have l1 : i < its.length := (List.getElem?_eq_some_iff.mp hu).1
    have l2 : i < its2.length := (List.getElem?_eq_some_iff.mp hu2).1
    have lt : i < min its.toArray.size its2.toArray.size := by
      rw [List.size_toArray, List.size_toArray]
      omega
    refine thn (W.goes i s (fun v s2 => ∃ (x : V) (H' : Hp), Inv X pins σ H' s2 ∧ RelV x v ∧ (ItzM X.K ta tb a b).yld i H x H' ∧ Zst ta tb a b z TI TO i1 i2 (i + 1) s2.heap ∧ ∀ c ∈ [z, TI, TO, i1, i2], H' c = none) E lt ⟨st.z, st.TI, st.TO, ⟨st.i1, p⟩, ⟨st.i2, p2⟩⟩
      fun v h' tk hY st' hk htk => ?_) fun r s1 h1 => h1
    obtain ⟨T, x', y', ev, hT, hx', hy', hTT⟩ := hY
    subst ev
    have ex : x' = u := by
      have q : its.toArray[i]? = some u := by simpa using hu
      rw [q] at hx'
      exact (Option.some.inj hx').symm
    have ey : y' = u2 := by
      have q : its2.toArray[i]? = some u2 := by simpa using hu2
      rw [q] at hy'
      exact (Option.some.inj hy').symm
    subst ex ey
    have new : ObjOk X.prog X.w (upd H T (.tup [x, y])) h' T (.tup [x, y]) := ⟨by show 2 ≤ sizeLine; decide, [x', y'], .cons ru (.cons ru2 .nil), hTT⟩
    have I1 : Inv X pins σ (upd H T (.tup [x, y])) { s with heap := h', toks := tk } :=
      I.turnedNew (ch := [z, TI, TO, i1, i2]) (fun c o hb q => hk c o (fun q' => hb (by simp at q' ⊢; rcases q' with q' | q' | q' | q' <;> simp [q'])) q) hf hT new
    refine ⟨.ref T, _, I1, rfl, ⟨T, x, y, rfl, I.hok.fresh hT, rfl, fun l hl => by rw [sqB_inj I hl hqx]; exact hx, fun l hl => by rw [sqB_inj I hl hqy]; exact hy⟩, ⟨st'.1, st'.2.1, st'.2.2.1, st'.2.2.2.1.1, st'.2.2.2.2.1⟩, fun c hcm => ?_⟩
    have hlt : c < s.heap.objs.size := by
      obtain ⟨hz, hTI, ⟨x0, y0, hTO⟩, h1, h2⟩ := st
      obtain ⟨o1, v1, e1, d1⟩ := h1.obj
      obtain ⟨o2, v2, e2, d2⟩ := h2.obj
      have e' : c = z ∨ c = TI ∨ c = TO ∨ c = i1 ∨ c = i2 := by simpa using hcm
      rcases e' with rfl | rfl | rfl | rfl | rfl
      · exact Heap.lt_size hz
      · exact Heap.lt_size hTI
      · exact Heap.lt_size hTO
      · exact Heap.lt_size e1
      · exact Heap.lt_size e2
    rw [upd_ne (Nat.ne_of_lt (Nat.lt_of_lt_of_le hlt hT))]
    exact (hf c hcm).1
  done := by
    intro X hP hw hK hc i pins s σ H E I hf st hg
    subst hP hw hK
    obtain ⟨xs, ys, hqx, hqy, hend⟩ := hg
    obtain ⟨its, rv, p, _⟩ := sqB_get I hqx
    obtain ⟨its2, rv2, p2, _⟩ := sqB_get I hqy
    have hd : X.A.in1.handled = none := I.ok.hd hc
    have na : ∀ c ∈ [z, TI, TO, i1, i2], c ≠ a := fun c hcm => sqB_ne I hqx (hf c hcm)
    have nb : ∀ c ∈ [z, TI, TO, i1, i2], c ≠ b := fun c hcm => sqB_ne I hqy (hf c hcm)
    have S : ZipSep2 z TI TO i1 i2 [i1, a] [i2, b] :=
      ⟨D.TIz, D.TOz, D.TITO, D.TIi1, by simp, by simp [D.zi1, na z (by simp)], by simp [D.Ti1, na TO (by simp)], D.TIi2, by simp, by simp [D.zi2, nb z (by simp)], by simp [D.Ti2, nb TO (by simp)],
        by simp [D.i12, nb i1 (by simp)], by simp [D.i12.symm, na i2 (by simp)]⟩
    have W := GoesN.zip2 (prog := X.prog) (w := X.w) (A := X.A) (elts := elts) (x1 := kk) (pos := tpos) S (drawB hd ta i1 a (na i1 (by simp)).symm its.toArray) (drawB hd tb i2 b (nb i2 (by simp)).symm its2.toArray)
    have en : i = min its.toArray.size its2.toArray.size := by
      rw [List.size_toArray, List.size_toArray, ← rv.length, ← rv2.length]
      exact hend
    have st' : Zst ta tb a b z TI TO i1 i2 (min its.toArray.size its2.toArray.size) s.heap := by rw [← en]; exact st
    exact W.stops s (fun s1 => Inv X pins σ H s1) E ⟨st'.z, st'.TI, st'.TO, ⟨st'.i1, p⟩, ⟨st'.i2, p2⟩⟩ fun h' tk hk htk =>
      I.turnedL (ch := [z, TI, TO, i1, i2]) (fun c o hb q => hk c o (fun q' => hb (by simp at q' ⊢; rcases q' with q' | q' | q' | q' <;> simp [q'])) q) hf
  self := fun A i s Q E st h => wpAny_pyIter_zip st.z h

theorem neNat {a b : Nat} (h : a ≠ b) : (a : Addr) ≠ b := h
theorem zap_nat (n : Nat) : Zap (n + 4) (n + 2) (n + 3) n (n + 1) := by
  constructor <;> (refine neNat ?_; omega)
theorem beginB (t : Bool) (l : Addr) (items : Array Value) : ∃ o, Begins (.ref l) o (fun h => SeB h t l items) ∧ ∀ h it, h.get? it = some o → ItB h t it l 0 := by
  cases t with
  | false => exact ⟨_, begins_list l items, fun h it e => ⟨_, e, rfl, rfl⟩⟩
  | true => exact ⟨_, begins_tuple l items, fun h it e => ⟨_, e, rfl, rfl⟩⟩
def iZipM (K : PySem.W.Frag) (ta : TA) : TI := fun σ H R => ta σ H fun vs H1 => ∃ p q a b xs ys, vs = [.ref a, .ref b] ∧ SqB K H1 p a xs ∧ SqB K H1 q b ys ∧ R (ItzM K p q a b) H1
theorem pi_zipM {X : Cx} {e e2 : Expr} {ta : TA} {p pos tpos : Pos} {elts : List Expr} {kk : Nat} (hg : Gl X "zip") (hm : X.mg "zip" = none) (ha : PA X [e, e2] ta)
    (hs : starEach [e, e2] X.env = (false, eval e X.env) :: starEach [e2] X.env := by rfl) (hpl : (backTo pos (starEach [e2] X.env)).any (·.1) = false := by rfl) :
    PI X (.Tuple elts kk tpos) (.Call (.Name "zip" p) [e, e2] [] pos) (iZipM X.K ta) := by
  refine ⟨fun pins s σ H R I h => ?_⟩
  refine Call_ (ld_blt I hg hm PyProof.Rows.boot_zip (PyProof.Rows.callWith_type1 (thn (ha.run pos pins s σ H _ I h) fun us s1 ⟨vs, H1, I1, r1, q1⟩ => ?_) hs hpl))
  obtain ⟨p, q, a, b, xs, ys, ex, hqx, hqy, q1⟩ := q1
  subst ex
  obtain ⟨u1, u2, rfl, r, r'⟩ := vals2 r1
  cases r
  cases r'
  obtain ⟨its, rv, p1, _⟩ := sqB_get I1 hqx
  obtain ⟨its2, rv2, p2, _⟩ := sqB_get I1 hqy
  obtain ⟨o1, B1, g1⟩ := beginB p a its.toArray
  obtain ⟨o2, B2, g2⟩ := beginB q b its2.toArray
  refine zip_begins2 B1 B2 p1 p2 fun h' hz hTI hTO h1 h2 hsz hk => wpAny_pyIter_zip hz ?_
  have I2 : Inv X pins σ H1 { s1 with heap := h' } := I1.kept (t' := s1.toks) hk
  refine ⟨s1.heap.objs.size + 4, [s1.heap.objs.size + 4, s1.heap.objs.size + 2, s1.heap.objs.size + 3, s1.heap.objs.size, s1.heap.objs.size + 1], _, _, H1, rfl, I2, turn_zipM (zap_nat s1.heap.objs.size), ⟨hz, hTI, ⟨_, _, hTO⟩, g1 _ _ h1, g2 _ _ h2⟩, fun c hcm => ?_, q1⟩
  have e' : c = s1.heap.objs.size + 4 ∨ c = s1.heap.objs.size + 2 ∨ c = s1.heap.objs.size + 3 ∨ c = s1.heap.objs.size ∨ c = s1.heap.objs.size + 1 := by simpa using hcm
  have hle : s1.heap.objs.size ≤ c := by
    rcases e' with z | z | z | z | z
    · rw [z]; exact Nat.le_add_right _ _
    · rw [z]; exact Nat.le_add_right _ _
    · rw [z]; exact Nat.le_add_right _ _
    · rw [z]; exact Nat.le_refl _
    · rw [z]; exact Nat.le_add_right _ _
  exact I1.fpOk hle (I1.hok.fresh hle)
end K02
set_option Elab.async false
set_option linter.all false
set_option maxRecDepth 100000
set_option maxHeartbeats 4000000
/-! ### what evaluates to which data, leaving what is known -/
namespace K02
open PySem PySem.Spec PyProof.Rows L2 Evl

/-! data -/
mutual
theorem dp_ex {K : PySem.W.Frag} {H H' : Hp} (e : Ex H H') : ∀ {v : V} {d : PyData}, Dp K H v d → Dp K H' v d
  | _, _, .non => .non
  | _, _, .bl b => .bl b
  | _, _, .int i => .int i
  | _, _, .str x => .str x
  | _, _, .lst h t => .lst (ex_l e h) (dps_ex e t)
  | _, _, .tup h t => .tup (ex_t e h) (dps_ex e t)
theorem dps_ex {K : PySem.W.Frag} {H H' : Hp} (e : Ex H H') : ∀ {vs : List V} {ds : List PyData}, DpAll K H vs ds → DpAll K H' vs ds
  | _, _, .nil => .nil
  | _, _, .cons h t => .cons (dp_ex e h) (dps_ex e t)
end
section
variable {K : PySem.W.Frag} {H : Hp} {v w : V} {vs ws : List V} {d e : PyData} {ds es : List PyData}
theorem dp_int {i : Int} (h : Dp K H v (.int i)) : v = .int i := by cases h; rfl
theorem dp_bl {b : Bool} (h : Dp K H v (.bool b)) : v = .bl b := by cases h; rfl
theorem dp_str {x : Str} (h : Dp K H v (.str x)) : v = .str x := by cases h; rfl
theorem dp_non (h : Dp K H v .none) : v = .non := by cases h; rfl
theorem dp_lst (h : Dp K H v (.list ds)) : ∃ a xs, v = .ref a ∧ SqL K H a xs ∧ DpAll K H xs ds := by
  cases h with
  | lst h t => exact ⟨_, _, rfl, h, t⟩
theorem dp_tup (h : Dp K H v (.tuple ds)) : ∃ a xs, v = .ref a ∧ SqT K H a xs ∧ DpAll K H xs ds := by
  cases h with
  | tup h t => exact ⟨_, _, rfl, h, t⟩
theorem dps_len : ∀ {vs : List V} {ds : List PyData}, DpAll K H vs ds → vs.length = ds.length
  | _, _, .nil => rfl
  | _, _, .cons _ t => congrArg Nat.succ (dps_len t)
theorem dps_get : ∀ {vs : List V} {ds : List PyData} {i : Nat} {d : PyData}, DpAll K H vs ds → ds[i]? = some d → ∃ v, vs[i]? = some v ∧ Dp K H v d
  | _, _, _, _, .nil, e => by simp at e
  | _, _, 0, _, .cons h _, e => by simp at e; subst e; exact ⟨_, rfl, h⟩
  | _, _, i + 1, _, .cons _ t, e => by
    obtain ⟨v, h1, h2⟩ := dps_get (i := i) t (by simpa using e)
    exact ⟨v, by simpa using h1, h2⟩
theorem dps_get' : ∀ {vs : List V} {ds : List PyData} {i : Nat} {v : V}, DpAll K H vs ds → vs[i]? = some v → ∃ d, ds[i]? = some d ∧ Dp K H v d
  | _, _, _, _, .nil, e => by simp at e
  | _, _, 0, _, .cons h _, e => by simp at e; subst e; exact ⟨_, rfl, h⟩
  | _, _, i + 1, _, .cons _ t, e => by
    obtain ⟨v, h1, h2⟩ := dps_get' (i := i) t (by simpa using e)
    exact ⟨v, by simpa using h1, h2⟩
theorem dps_app : ∀ {vs ws : List V} {ds es : List PyData}, DpAll K H vs ds → DpAll K H ws es → DpAll K H (vs ++ ws) (ds ++ es)
  | _, _, _, _, .nil, h => h
  | _, _, _, _, .cons h t, h' => .cons h (dps_app t h')
theorem dps_one (h : Dp K H v d) : DpAll K H [v] [d] := .cons h .nil
theorem dps_take : ∀ (n : Nat) {vs : List V} {ds : List PyData}, DpAll K H vs ds → DpAll K H (vs.take n) (ds.take n)
  | 0, _, _, _ => .nil
  | n + 1, _, _, .nil => .nil
  | n + 1, _, _, .cons h t => .cons h (dps_take n t)
theorem dps_drop : ∀ (n : Nat) {vs : List V} {ds : List PyData}, DpAll K H vs ds → DpAll K H (vs.drop n) (ds.drop n)
  | 0, _, _, h => h
  | n + 1, _, _, .nil => .nil
  | n + 1, _, _, .cons h t => dps_drop n t
theorem dps_ints : ∀ (ns : List Int), DpAll K H (ns.map V.int) (ns.map PyData.int)
  | [] => .nil
  | n :: ns => .cons (.int n) (dps_ints ns)
theorem dps_ints_eq : ∀ {vs : List V} {ns : List Int}, DpAll K H vs (ns.map PyData.int) → vs = ns.map V.int
  | _, [], h => by cases h; rfl
  | _, n :: ns, h => by
    have h' : DpAll K H _ (.int n :: ns.map PyData.int) := h
    cases h' with
    | cons h1 h2 => rw [dp_int h1, dps_ints_eq h2]; rfl
theorem dps_bls_eq : ∀ {vs : List V} {ns : List Bool}, DpAll K H vs (ns.map PyData.bool) → vs = ns.map V.bl
  | _, [], h => by cases h; rfl
  | _, n :: ns, h => by
    have h' : DpAll K H _ (.bool n :: ns.map PyData.bool) := h
    cases h' with
    | cons h1 h2 => rw [dp_bl h1, dps_bls_eq h2]; rfl
theorem dps_strs_eq : ∀ {vs : List V} {ns : List Str}, DpAll K H vs (ns.map PyData.str) → vs = ns.map V.str
  | _, [], h => by cases h; rfl
  | _, n :: ns, h => by
    have h' : DpAll K H _ (.str n :: ns.map PyData.str) := h
    cases h' with
    | cons h1 h2 => rw [dp_str h1, dps_strs_eq h2]; rfl
/-- a sequence: a list (false), a tuple (true) -/
def dSeq (t : Bool) (ds : List PyData) : PyData := match t with
  | false => .list ds
  | true => .tuple ds
theorem dp_seq {t : Bool} (h : Dp K H v (dSeq t ds)) : ∃ a xs, v = .ref a ∧ SqB K H t a xs ∧ DpAll K H xs ds := by
  cases t with
  | false => exact dp_lst h
  | true => exact dp_tup h
end

/-! ### evaluating: Hs is the part of the heap that one leans on, H1 the heap -/
/-- a step on: what the part leans on is what it leaned on, and new things -/
structure Fw (Hs H1 Hs2 H2 : Hp) : Prop where
  a : Ex H1 H2
  b : Ex Hs Hs2
  c : Ex Hs2 H2
  d : ∀ x o, H1 x = some o → Hs x = none → Hs2 x = none
theorem Fw.refl {Hs H1 : Hp} (h : Ex Hs H1) : Fw Hs H1 Hs H1 := ⟨Ex.refl _, Ex.refl _, h, fun _ _ _ n => n⟩
theorem Fw.skip {Hs H1 H2 : Hp} (h : Ex Hs H1) (e : Ex H1 H2) : Fw Hs H1 Hs H2 := ⟨e, Ex.refl _, h.trans e, fun _ _ _ n => n⟩
theorem Fw.trans {Hs H1 Hs2 H2 Hs3 H3 : Hp} (f : Fw Hs H1 Hs2 H2) (g : Fw Hs2 H2 Hs3 H3) : Fw Hs H1 Hs3 H3 := ⟨f.a.trans g.a, f.b.trans g.b, g.c, fun x o h n => g.d x o (f.a x o h) (f.d x o h n)⟩
theorem Fw.new {Hs H1 : Hp} {p : Addr} {o : HO} (h : Ex Hs H1) (hp : H1 p = none) : Fw Hs H1 (upd Hs p o) (upd H1 p o) where
  a := Ex.new hp
  b := Ex.new (fresh_back h hp)
  c := fun x u e => by
    by_cases q : x = p
    · subst q; rw [upd_same] at e ⊢; exact e
    · rw [upd_ne q] at e ⊢; exact h x u e
  d := fun x u e n => by rw [upd_ne (ne_of_none e hp)]; exact n
/-- te gives some value of which P, leaving what is known -/
def EvP (te : TE) (σ : L2.St) (H : Hp) (P : V → Hp → Prop) : Prop := ∀ Hs H1, Ex H Hs → Ex Hs H1 → ∀ Q : VK, (∀ v Hs2 H2, Fw Hs H1 Hs2 H2 → P v Hs2 → Q v H2) → te σ H1 Q
/-- te gives a value that stands for d -/
abbrev EvD (K : PySem.W.Frag) (te : TE) (σ : L2.St) (H : Hp) (d : PyData) : Prop := EvP te σ H fun v H2 => Dp K H2 v d
section
variable {K : PySem.W.Frag} {σ : L2.St} {H H' : Hp} {ta tb te tx : TE} {t u : TT} {x y z v : V} {r : R2} {d e : PyData} {P : V → Hp → Prop}
theorem EvP.mono (e : Ex H H') (h : EvP te σ H P) : EvP te σ H' P := fun Hs H1 a b Q q => h Hs H1 (e.trans a) b Q q
theorem EvP.imp {P' : V → Hp → Prop} (h : EvP te σ H P) (i : ∀ v H2, Ex H H2 → P v H2 → P' v H2) : EvP te σ H P' := fun Hs H1 a b Q q => h Hs H1 a b Q fun v Hs2 H2 f p => q v Hs2 H2 f (i v Hs2 (a.trans f.b) p)
theorem evp_of (h : Ev te σ H v) (hd : ∀ H2, Ex H H2 → P v H2) : EvP te σ H P := fun Hs H1 a b Q q => h H1 (a.trans b) Q fun H2 e2 => q v Hs H2 (Fw.skip b e2) (hd Hs a)
theorem evd_of (h : Ev te σ H v) (hd : Dp K H v d) : EvD K te σ H d := evp_of h fun _ e => dp_ex e hd
theorem ev_of {w : V} (h : EvP te σ H P) (hp : ∀ v H2, Ex H H2 → P v H2 → v = w) : Ev te σ H w := fun H1 e Q q => h H H1 (Ex.refl _) e Q fun v Hs2 H2 f p => by
  rw [hp v Hs2 f.b p]
  exact q H2 f.a
theorem ev_int {i : Int} (h : EvD K te σ H (.int i)) : Ev te σ H (.int i) := ev_of h fun _ _ _ p => dp_int p
theorem ev_bl {b : Bool} (h : EvD K te σ H (.bool b)) : Ev te σ H (.bl b) := ev_of h fun _ _ _ p => dp_bl p
theorem ev_str {b : Str} (h : EvD K te σ H (.str b)) : Ev te σ H (.str b) := ev_of h fun _ _ _ p => dp_str p
theorem evd_var {i : Nat} (h : σ[i]? = some (some v)) (hd : Dp K H v d) : EvD K (tVar i) σ H d := evd_of (ev_var h) hd
theorem evd_c (hd : Dp K H v d) : EvD K (tC v) σ H d := evd_of ev_c hd
theorem evd_eq (h : EvD K te σ H d) (e1 : d = e) : EvD K te σ H e := e1 ▸ h
/-- two operands -/
theorem ev_op2 {P2 : V → Hp → Prop} {P1 : V → Hp → Prop} {w : V} (ha : EvP ta σ H P1) (hb : EvP tb σ H P2) (mono : ∀ v H1 H2, Ex H1 H2 → P1 v H1 → P1 v H2) (mono2 : ∀ v H1 H2, Ex H1 H2 → P2 v H1 → P2 v H2)
    (hr : ∀ x y H1, Ex H H1 → P1 x H1 → P2 y H1 → ∀ Q : VK, (∀ H2, Ex H1 H2 → Q w H2) → r x y H1 Q) : Ev (tOp r ta tb) σ H w := fun H1 a Q q =>
  ha H H1 (Ex.refl _) a _ fun v Hs2 H2 f p => hb Hs2 H2 f.b f.c _ fun w' Hs3 H3 f' p' => hr v w' H3 (a.trans (f.trans f').a) (mono _ _ _ (f'.b.trans f'.c) p) (mono2 _ _ _ f'.c p') Q fun H4 e4 => q H4 ((f.trans f').a.trans e4)
theorem dp_mono {d : PyData} : ∀ (v : V) (H1 H2 : Hp), Ex H1 H2 → Dp K H1 v d → Dp K H2 v d := fun _ _ _ e h => dp_ex e h
/-- ==, != of data -/
theorem ev_eqD (ha : EvD K ta σ H d) (hb : EvD K tb σ H e) (hs : SeqAt.shaped d = true) (hs' : SeqAt.shaped e = true) : Ev (tOp (rEqD K) ta tb) σ H (.bl (PyData.eqv d e)) :=
  ev_op2 ha hb dp_mono dp_mono fun x y H1 _ p p' Q q => ⟨d, e, p, p', hs, hs', q H1 (Ex.refl _)⟩
theorem ev_neD (ha : EvD K ta σ H d) (hb : EvD K tb σ H e) (hs : SeqAt.shaped d = true) (hs' : SeqAt.shaped e = true) : Ev (tOp (rNeD K) ta tb) σ H (.bl (!PyData.eqv d e)) :=
  ev_op2 ha hb dp_mono dp_mono fun x y H1 _ p p' Q q => ⟨d, e, p, p', hs, hs', q H1 (Ex.refl _)⟩
theorem ev_inD {ds : List PyData} (ha : EvD K ta σ H d) (hb : EvD K tb σ H (.list ds)) (hs : SeqAt.shaped d = true) (hs' : SeqAt.shaped (.list ds) = true) : Ev (tOp (rInD K) ta tb) σ H (.bl (ds.any fun z => PyData.eqv z d)) :=
  ev_op2 ha hb dp_mono dp_mono fun x y H1 _ p p' Q q => ⟨d, ds, p, p', hs, hs', q H1 (Ex.refl _)⟩
theorem ev_notInD {ds : List PyData} (ha : EvD K ta σ H d) (hb : EvD K tb σ H (.list ds)) (hs : SeqAt.shaped d = true) (hs' : SeqAt.shaped (.list ds) = true) : Ev (tOp (rNotInD K) ta tb) σ H (.bl (!ds.any fun z => PyData.eqv z d)) :=
  ev_op2 ha hb dp_mono dp_mono fun x y H1 _ p p' Q q => ⟨d, ds, p, p', hs, hs', q H1 (Ex.refl _)⟩
/-- an item -/
theorem evd_ixL {ds : List PyData} {i : Nat} (ha : EvD K ta σ H (.list ds)) (hb : Ev tb σ H (.int (i : Int))) (hi : ds[i]? = some d) : EvD K (tOp (rIxL K) ta tb) σ H d := fun Hs H1 a b Q q =>
  ha Hs H1 a b _ fun v Hs2 H2 f p => hb H2 (a.trans (f.b.trans f.c)) _ fun H3 e3 => by
    obtain ⟨p0, xs, rfl, hs, ht⟩ := dp_lst p
    obtain ⟨w, hw, hd⟩ := dps_get ht hi
    have hl : i < xs.length := (List.getElem?_eq_some_iff.mp hw).1
    exact ⟨p0, xs, i, w, rfl, rfl, ex_l (f.c.trans e3) hs, by unfold atI; rw [ixN_nat hl]; exact hw, q w Hs2 H3 (f.trans (Fw.skip f.c e3)) hd⟩
theorem evd_ixT {ds : List PyData} {i : Nat} (ha : EvD K ta σ H (.tuple ds)) (hb : Ev tb σ H (.int (i : Int))) (hi : ds[i]? = some d) : EvD K (tOp (rIxT K) ta tb) σ H d := fun Hs H1 a b Q q =>
  ha Hs H1 a b _ fun v Hs2 H2 f p => hb H2 (a.trans (f.b.trans f.c)) _ fun H3 e3 => by
    obtain ⟨p0, xs, rfl, hs, ht⟩ := dp_tup p
    obtain ⟨w, hw, hd⟩ := dps_get ht hi
    have hl : i < xs.length := (List.getElem?_eq_some_iff.mp hw).1
    exact ⟨p0, xs, i, w, rfl, rfl, ex_t (f.c.trans e3) hs, by unfold atI; rw [ixN_nat hl]; exact hw, q w Hs2 H3 (f.trans (Fw.skip f.c e3)) hd⟩
/-- arguments of which P -/
def EvAP (ta : TA) (σ : L2.St) (H : Hp) (P : List V → Hp → Prop) : Prop := ∀ Hs H1, Ex H Hs → Ex Hs H1 → ∀ Q : List V → Hp → Prop, (∀ vs Hs2 H2, Fw Hs H1 Hs2 H2 → P vs Hs2 → Q vs H2) → ta σ H1 Q
abbrev EvAD (K : PySem.W.Frag) (ta : TA) (σ : L2.St) (H : Hp) (ds : List PyData) : Prop := EvAP ta σ H fun vs H2 => DpAll K H2 vs ds
theorem ead_nil : EvAD K tNil σ H [] := fun Hs H1 _ b _ q => q [] Hs H1 (Fw.refl b) .nil
theorem ead_cons {tr : TA} {ds : List PyData} (h : EvD K ta σ H d) (hr : EvAD K tr σ H ds) : EvAD K (tCons ta tr) σ H (d :: ds) := fun Hs H1 a b _ q =>
  h Hs H1 a b _ fun v Hs2 H2 f p => hr Hs2 H2 (a.trans f.b) f.c _ fun vs Hs3 H3 f' p' => q _ Hs3 H3 (f.trans f') (.cons (dp_ex f'.b p) p')
theorem eap_nil : EvAP tNil σ H (fun vs _ => vs = []) := fun Hs H1 _ b _ q => q [] Hs H1 (Fw.refl b) rfl
theorem eap_cons {tr : TA} {P : V → Hp → Prop} {R : List V → Hp → Prop} (h : EvP ta σ H P) (mono : ∀ v H1 H2, Ex H1 H2 → P v H1 → P v H2) (hr : EvAP tr σ H R) : EvAP (tCons ta tr) σ H (fun vs H2 => ∃ v r, vs = v :: r ∧ P v H2 ∧ R r H2) := fun Hs H1 a b _ q =>
  h Hs H1 a b _ fun v Hs2 H2 f p => hr Hs2 H2 (a.trans f.b) f.c _ fun vs Hs3 H3 f' p' => q _ Hs3 H3 (f.trans f') ⟨v, vs, rfl, mono _ _ _ f'.b p, p'⟩
theorem evd_tup {ta : TA} {ds : List PyData} (h : EvAD K ta σ H ds) (hl : ds.length ≤ 100000) : EvD K (tTup ta) σ H (.tuple ds) := fun Hs H1 a b _ q =>
  h Hs H1 a b _ fun vs Hs2 H2 f hd => ⟨sz_of (by rw [dps_len hd]; exact hl), fun p hp => q _ _ _ (f.trans (Fw.new f.c hp)) (.tup (st_of upd_same) (dps_ex (Fw.new f.c hp).b hd))⟩
theorem evd_lst {ta : TA} {ds : List PyData} (h : EvAD K ta σ H ds) (hl : ds.length ≤ 100000) : EvD K (tLst ta) σ H (.list ds) := fun Hs H1 a b _ q =>
  h Hs H1 a b _ fun vs Hs2 H2 f hd => ⟨sz_of (by rw [dps_len hd]; exact hl), fun p hp => q _ _ _ (f.trans (Fw.new f.c hp)) (.lst (sq_of upd_same) (dps_ex (Fw.new f.c hp).b hd))⟩
/-- calls: what a promise must give -/
theorem evp_call {sp : Sp} {E : XK} {ta : TA} {R : List V → Hp → Prop} (h : EvAP ta σ H R) (hs : ∀ Hs H1, Ex H Hs → Ex Hs H1 → ∀ vs, R vs Hs → ∀ Q : VK, (∀ v Hs2 H2, Fw Hs H1 Hs2 H2 → P v Hs2 → Q v H2) → sp (vs ++ []) H1 Q E) : EvP (tCall sp [] E ta) σ H P := fun Hs H1 a b Q q =>
  h Hs H1 a b _ fun vs Hs2 H2 f hd => hs Hs2 H2 (a.trans f.b) f.c vs hd Q fun v Hs3 H3 f' p => q v Hs3 H3 (f.trans f') p
theorem evb_call {sp : Sp} {E : XK} {ta : TA} {R : List V → Hp → Prop} {b : V} (h : EvAP ta σ H R) (hs : ∀ Hs H1, Ex H Hs → Ex Hs H1 → ∀ vs, R vs Hs → ∀ Q : VK, (∀ H2, Ex H1 H2 → Q b H2) → sp (vs ++ []) H1 Q E) : Ev (tCall sp [] E ta) σ H b := fun H1 e Q q =>
  h H H1 (Ex.refl _) e _ fun vs Hs2 H2 f hd => hs Hs2 H2 f.b f.c vs hd Q fun H3 e3 => q H3 (f.a.trans e3)
/-- len, any, all -/
theorem ev_lenD {t : Bool} {ds : List PyData} (ha : EvD K ta σ H (dSeq t ds)) : Ev (tCB (fun xs H Q => ∃ p ys, xs = [.ref p] ∧ (SqL K H p ys ∨ SqT K H p ys) ∧ Q (.int ys.length) H) (tCons ta tNil)) σ H (.int (ds.length : Int)) := fun H1 x Q q =>
  ha H H1 (Ex.refl _) x _ fun v Hs2 H2 f p => by
    obtain ⟨a, xs, rfl, hs, ht⟩ := dp_seq p
    refine ⟨a, xs, rfl, ?_, by rw [dps_len ht]; exact q H2 f.a⟩
    cases t with
    | false => exact .inl (ex_l f.c hs)
    | true => exact .inr (ex_t f.c hs)
theorem ev_all {bs : List Bool} (ha : EvD K ta σ H (.list (bs.map PyData.bool))) : Ev (tCB (rAll K) (tCons ta tNil)) σ H (.bl (bs.all id)) := fun H1 x Q q =>
  ha H H1 (Ex.refl _) x _ fun v Hs2 H2 f p => by
    obtain ⟨a, xs, rfl, hs, ht⟩ := dp_lst p
    rw [dps_bls_eq ht] at hs
    exact ⟨a, bs, rfl, ex_l f.c hs, q H2 f.a⟩
theorem ev_any {bs : List Bool} (ha : EvD K ta σ H (.list (bs.map PyData.bool))) : Ev (tCB (rAny K) (tCons ta tNil)) σ H (.bl (bs.any id)) := fun H1 x Q q =>
  ha H H1 (Ex.refl _) x _ fun v Hs2 H2 f p => by
    obtain ⟨a, xs, rfl, hs, ht⟩ := dp_lst p
    rw [dps_bls_eq ht] at hs
    exact ⟨a, bs, rfl, ex_l f.c hs, q H2 f.a⟩
/-- tuple(l), list(s) -/
theorem evd_tupleOf {ds : List PyData} (ha : EvD K ta σ H (.list ds)) :
    EvD K (tCB (fun xs H Q => ∃ p ys, xs = [.ref p] ∧ ((SqL K H p ys ∧ ∀ l, H l = none → Q (.ref l) (upd H l (.tup ys))) ∨ (SqT K H p ys ∧ Q (.ref p) H))) (tCons ta tNil)) σ H (.tuple ds) := fun Hs H1 a b Q q =>
  ha Hs H1 a b _ fun v Hs2 H2 f p => by
    obtain ⟨a, xs, rfl, hs, ht⟩ := dp_lst p
    exact ⟨a, xs, rfl, .inl ⟨ex_l f.c hs, fun l hl => q _ _ _ (f.trans (Fw.new f.c hl)) (.tup (st_of upd_same) (dps_ex (Fw.new f.c hl).b ht))⟩⟩
theorem evd_listOf {t : Bool} {ds : List PyData} (ha : EvD K ta σ H (dSeq t ds)) :
    EvD K (tCB (fun xs H Q => ∃ p ys, xs = [.ref p] ∧ (SqL K H p ys ∨ SqT K H p ys) ∧ ∀ l, H l = none → Q (.ref l) (upd H l (.lst ys))) (tCons ta tNil)) σ H (.list ds) := fun Hs H1 a b Q q =>
  ha Hs H1 a b _ fun v Hs2 H2 f p => by
    obtain ⟨a, xs, rfl, hs, ht⟩ := dp_seq p
    refine ⟨a, xs, rfl, ?_, fun l hl => q _ _ _ (f.trans (Fw.new f.c hl)) (.lst (sq_of upd_same) (dps_ex (Fw.new f.c hl).b ht))⟩
    cases t with
    | false => exact .inl (ex_l f.c hs)
    | true => exact .inr (ex_t f.c hs)

/-! ### what is walked -/
/-- n turns; behind the i-th target, from the slots σb, the slots and heap are as S i σb says -/
def Wk (wi : TI) (g : TG) (σ : L2.St) (H : Hp) (n : Nat) (S : Nat → L2.St → L2.St → Hp → Prop) : Prop :=
  ∀ Hs H0, Ex H Hs → Ex Hs H0 → ∀ R : It → Hp → Prop, (∀ J Hs1 H1, Fw Hs H0 Hs1 H1 → (∀ Hs' H', Ex Hs1 Hs' → Ex Hs' H' → J.stop n H' ∧ ∀ i, i < n → J.go i H' ∧ ∀ x H'', J.yld i H' x H'' → ∀ (σb : L2.St) (Q : L2.St → Hp → Prop), (∀ σ2 Hs3 H3, Fw Hs' H' Hs3 H3 → S i σb σ2 Hs3 → Q σ2 H3) → g x σb H'' Q) → R J H1) → wi σ H0 R
/-- one name in slot j -/
def S1 (j : Nat) (R : Nat → V → Hp → Prop) : Nat → L2.St → L2.St → Hp → Prop := fun i σb σ2 H => ∃ v, R i v H ∧ σ2 = σb.set j (some v)
def S2 (j k : Nat) (R : Nat → V → V → Hp → Prop) : Nat → L2.St → L2.St → Hp → Prop := fun i σb σ2 H => ∃ v w, R i v w H ∧ σ2 = (σb.set j (some v)).set k (some w)
/-- two names -/
abbrev g2 (K : PySem.W.Frag) (j k : Nat) : TG := gTup K 2 (gCons (gName j) (gCons (gName k) gNil))
theorem g2_of {j k : Nat} {T : Addr} {H : Hp} {Q : L2.St → Hp → Prop} (hT : SqT K H T [x, y]) (h : Q ((σ.set j (some x)).set k (some y)) H) : g2 K j k (.ref T) σ H Q :=
  ⟨T, [x, y], rfl, hT, rfl, x, [y], rfl, y, [], rfl, rfl, h⟩
theorem wk_list {tl : TE} {ds : List PyData} {j : Nat} (h : EvD K tl σ H (.list ds)) : Wk (iList K tl) (gName j) σ H ds.length (S1 j fun i v H2 => ∃ d, ds[i]? = some d ∧ Dp K H2 v d) := fun Hs H0 a0 b0 R q =>
  h Hs H0 a0 b0 _ fun v Hs1 H1 f p => by
    obtain ⟨a, xs, rfl, hs, ht⟩ := dp_lst p
    refine ⟨a, rfl, ⟨xs, ex_l f.c hs⟩, q _ Hs1 H1 f fun Hs' H' e1 e2 => ⟨⟨xs, ex_l (e1.trans e2) hs, Nat.le_of_eq (dps_len ht)⟩, fun i hi => ?_⟩⟩
    have hi' : i < xs.length := by rw [dps_len ht]; exact hi
    refine ⟨⟨xs, xs[i], ex_l (e1.trans e2) hs, by simp [hi']⟩, fun x H'' y => ?_⟩
    obtain ⟨e3, y⟩ := y
    subst e3
    intro σb Q hQ
    obtain ⟨d, hd, hp⟩ := dps_get' ht (y xs (ex_l (e1.trans e2) hs))
    exact hQ _ Hs' _ (Fw.refl e2) ⟨x, ⟨d, hd, dp_ex e1 hp⟩, rfl⟩
theorem wk_tup {tl : TE} {ds : List PyData} {j : Nat} (h : EvD K tl σ H (.tuple ds)) : Wk (iTup K tl) (gName j) σ H ds.length (S1 j fun i v H2 => ∃ d, ds[i]? = some d ∧ Dp K H2 v d) := fun Hs H0 a0 b0 R q =>
  h Hs H0 a0 b0 _ fun v Hs1 H1 f p => by
    obtain ⟨a, xs, rfl, hs, ht⟩ := dp_tup p
    refine ⟨a, rfl, ⟨xs, ex_t f.c hs⟩, q _ Hs1 H1 f fun Hs' H' e1 e2 => ⟨⟨xs, ex_t (e1.trans e2) hs, Nat.le_of_eq (dps_len ht)⟩, fun i hi => ?_⟩⟩
    have hi' : i < xs.length := by rw [dps_len ht]; exact hi
    refine ⟨⟨xs, xs[i], ex_t (e1.trans e2) hs, by simp [hi']⟩, fun x H'' y => ?_⟩
    obtain ⟨e3, y⟩ := y
    subst e3
    intro σb Q hQ
    obtain ⟨d, hd, hp⟩ := dps_get' ht (y xs (ex_t (e1.trans e2) hs))
    exact hQ _ Hs' _ (Fw.refl e2) ⟨x, ⟨d, hd, dp_ex e1 hp⟩, rfl⟩
theorem wk_range {ta : TA} {j : Nat} {n : Nat} (h : EvA ta σ H [.int (n : Int)]) (hn : n ≤ 100000) : Wk (iRng1 ta) (gName j) σ H n (S1 j fun i v H2 => v = .int (i : Int)) := fun Hs H0 a0 b0 R q =>
  h H0 (a0.trans b0) _ fun H1 e1 => ⟨(n : Int), rfl, by omega, by omega, q _ Hs H1 (Fw.skip b0 e1) fun Hs' H' e2 e3 => ⟨Nat.le_of_eq (by simp), fun i hi => ⟨by show i < ((n : Int)).toNat; simpa using hi, fun x H'' y => by
    obtain ⟨e4, y⟩ := y
    subst e4
    intro σb Q hQ
    refine hQ _ Hs' _ (Fw.refl e3) ⟨x, ?_, rfl⟩
    rw [y, Int.zero_add]⟩⟩⟩
/-- items that are tuples, unpacked into two names -/
theorem wk_list2 {tl : TE} {ds : List PyData} {j k : Nat} (h : EvD K tl σ H (.list ds)) (h2 : ∀ d ∈ ds, ∃ a b, d = .tuple [a, b]) : Wk (iList K tl) (g2 K j k) σ H ds.length (S2 j k fun i v w H2 => ∃ a b, ds[i]? = some (.tuple [a, b]) ∧ Dp K H2 v a ∧ Dp K H2 w b) := fun Hs H0 a0 b0 R q =>
  h Hs H0 a0 b0 _ fun v Hs1 H1 f p => by
    obtain ⟨a, xs, rfl, hs, ht⟩ := dp_lst p
    refine ⟨a, rfl, ⟨xs, ex_l f.c hs⟩, q _ Hs1 H1 f fun Hs' H' e1 e2 => ⟨⟨xs, ex_l (e1.trans e2) hs, Nat.le_of_eq (dps_len ht)⟩, fun i hi => ?_⟩⟩
    have hi' : i < xs.length := by rw [dps_len ht]; exact hi
    refine ⟨⟨xs, xs[i], ex_l (e1.trans e2) hs, by simp [hi']⟩, fun x H'' y => ?_⟩
    obtain ⟨e3, y⟩ := y
    subst e3
    intro σb Q hQ
    obtain ⟨d, hd, hp⟩ := dps_get' ht (y xs (ex_l (e1.trans e2) hs))
    obtain ⟨d1, d2, rfl⟩ := h2 d (List.mem_of_getElem? hd)
    obtain ⟨T, zs, rfl, hz, hzs⟩ := dp_tup (dp_ex e1 hp)
    cases hzs with
    | cons p1 r1 =>
      cases r1 with
      | cons p2 r2 =>
        cases r2
        exact g2_of (ex_t e2 hz) (hQ _ Hs' _ (Fw.refl e2) ⟨_, _, ⟨d1, d2, hd, p1, p2⟩, rfl⟩)
theorem ex_b {t : Bool} {a : Addr} {xs : List V} {H H' : Hp} (e : Ex H H') (h : SqB K H t a xs) : SqB K H' t a xs := by
  cases t with
  | false => exact ex_l e h
  | true => exact ex_t e h
theorem wk_zip {ta : TA} {p q : Bool} {ds es : List PyData} {j k : Nat} (h : EvAD K ta σ H [dSeq p ds, dSeq q es]) :
    Wk (iZipM K ta) (g2 K j k) σ H (min ds.length es.length) (S2 j k fun i v w H2 => ∃ a b, ds[i]? = some a ∧ es[i]? = some b ∧ Dp K H2 v a ∧ Dp K H2 w b) := fun Hs H0 a0 b0 R r =>
  h Hs H0 a0 b0 _ fun vs Hs1 H1 f hp => by
    cases hp with
    | cons h1 hp =>
      cases hp with
      | cons h2 hp =>
        cases hp
        obtain ⟨a, xs, rfl, hs, ht⟩ := dp_seq h1
        obtain ⟨b, ys, rfl, hs', ht'⟩ := dp_seq h2
        refine ⟨p, q, a, b, xs, ys, rfl, ex_b f.c hs, ex_b f.c hs', r _ Hs1 H1 f fun Hs' H' e1 e2 => ⟨⟨xs, ys, ex_b (e1.trans e2) hs, ex_b (e1.trans e2) hs', by rw [dps_len ht, dps_len ht']⟩, fun i hi => ?_⟩⟩
        have hi1 : i < xs.length := by rw [dps_len ht]; omega
        have hi2 : i < ys.length := by rw [dps_len ht']; omega
        refine ⟨⟨xs, ys, xs[i], ys[i], ex_b (e1.trans e2) hs, ex_b (e1.trans e2) hs', by simp [hi1], by simp [hi2]⟩, fun x H'' y => ?_⟩
        obtain ⟨T, x', y', rfl, hT, rfl, f1, f2⟩ := y
        intro σb Q hQ
        obtain ⟨d1, g1, p1⟩ := dps_get' ht (f1 xs (ex_b (e1.trans e2) hs))
        obtain ⟨d2, g2', p2⟩ := dps_get' ht' (f2 ys (ex_b (e1.trans e2) hs'))
        exact g2_of (st_of upd_same) (hQ _ Hs' _ (Fw.skip e2 (Ex.new hT)) ⟨_, _, ⟨d1, d2, g1, g2', dp_ex e1 p1, dp_ex e1 p2⟩, rfl⟩)

/-! ### list comprehensions -/
/-- what n turns give -/
def gvn {α : Type} (n : Nat) (f : Nat → Bool) (r : Nat → α) : List α := ((List.range n).filter f).map r
theorem gvn_yes {α : Type} {n : Nat} {f : Nat → Bool} {r : Nat → α} (h : f n = true) : gvn (n + 1) f r = gvn n f r ++ [r n] := by
  unfold gvn
  rw [List.range_succ, List.filter_append, List.map_append, List.filter_cons, if_pos h] <;> rfl
theorem gvn_no {α : Type} {n : Nat} {f : Nat → Bool} {r : Nat → α} (h : f n = false) : gvn (n + 1) f r = gvn n f r := by
  unfold gvn
  rw [List.range_succ, List.filter_append, List.map_append, List.filter_cons, if_neg (by rw [h]; decide)]
  show _ ++ [] = _
  rw [List.append_nil]
theorem gvn_len {α : Type} (n : Nat) (f : Nat → Bool) (r : Nat → α) : (gvn n f r).length ≤ n := by
  unfold gvn
  rw [List.length_map]
  have h := List.length_filter_le f (List.range n)
  rw [List.length_range] at h
  exact h
theorem gvn_take {α β : Type} (as : List α) (f : Nat → Bool) (r : Nat → β) (p : α → Bool) (h : α → β) (hf : ∀ i a, as[i]? = some a → f i = p a) (hr : ∀ i a, as[i]? = some a → r i = h a) : ∀ n, n ≤ as.length → gvn n f r = ((as.take n).filter p).map h
  | 0, _ => by simp [gvn]
  | n + 1, hn => by
    have ih := gvn_take as f r p h hf hr n (Nat.le_of_succ_le hn)
    have e : as[n]? = some as[n] := List.getElem?_eq_getElem hn
    have et : as.take (n + 1) = as.take n ++ [as[n]] := by rw [List.take_add_one, e]; rfl
    rw [et, List.filter_append, List.map_append]
    cases hb : f n with
    | true =>
      rw [gvn_yes hb, ih, List.filter_cons_of_pos (by rw [← hf n _ e]; exact hb), hr n _ e]
      rfl
    | false =>
      rw [gvn_no hb, ih, List.filter_cons_of_neg (by rw [← hf n _ e, hb]; decide)]
      simp
/-- the list that a comprehension builds at D, told by a part of the heap without it -/
structure Bld (K : PySem.W.Frag) (Hs1 H1 : Hp) (D : Addr) (ds : List PyData) (Hs H' : Hp) : Prop where
  a : Ex H1 H'
  b : Ex Hs1 Hs
  c : Ex Hs H'
  d : ∀ x o, H1 x = some o → Hs1 x = none → Hs x = none
  n : Hs D = none
  l : ∃ xs, H' D = some (.lst xs) ∧ DpAll K Hs xs ds
theorem Bld.fw {Hs1 H1 : Hp} {D : Addr} {ds : List PyData} {Hs H' Hs2 H2 : Hp} (B : Bld K Hs1 H1 D ds Hs H') (f : Fw Hs H' Hs2 H2) : Bld K Hs1 H1 D ds Hs2 H2 := by
  obtain ⟨xs, hx, hd⟩ := B.l
  exact ⟨B.a.trans f.a, B.b.trans f.b, f.c, fun x o h n => f.d x o (B.a x o h) (B.d x o h n), f.d D _ hx B.n, xs, f.a D _ hx, dps_ex f.b hd⟩
theorem evd_lc {wi : TI} {g : TG} {tt : TT} {vs : List Nat} {n : Nat} {S : Nat → L2.St → L2.St → Hp → Prop} (f : Nat → Bool) (r : Nat → PyData) (hw : Wk wi g σ H n S) (hn : n ≤ 100000)
    (hs : ∀ i σ2 H', i < n → Ex H H' → S i (wipe σ vs) σ2 H' → wipe σ2 vs = wipe σ vs ∧ EvT tt σ2 H' (f i) ∧ (f i = true → EvD K te σ2 H' (r i))) : EvD K (tLc wi g tt te vs) σ H (.list (gvn n f r)) := fun Hs0 H0 a0 b0 Q q =>
  hw Hs0 H0 a0 b0 _ fun J Hs1 H1 f1 hJ => fun D hD => by
    refine ⟨fun i m H' => m = n - i ∧ i ≤ n ∧ ∃ Hs, Bld K Hs1 H1 D (gvn i f r) Hs H', ⟨n, by simp, Nat.zero_le _, Hs1, Ex.new hD, Ex.refl _, f1.c.trans (Ex.new hD), fun _ _ _ n => n, fresh_back f1.c hD, [], upd_same, .nil⟩, ?_⟩
    rintro i m H' ⟨rfl, hi, Hs, B⟩
    by_cases hlt : i < n
    · obtain ⟨_, hgo⟩ := hJ Hs H' B.b B.c
      obtain ⟨go, hy⟩ := hgo i hlt
      refine .inr ⟨go, fun H'' => i + 1 ≤ n ∧ ∃ Hs, Bld K Hs1 H1 D (gvn (i + 1) f r) Hs H'', fun H'' w => ⟨n - (i + 1), by omega, rfl, w⟩, fun x H'' y => ?_⟩
      refine hy x H'' y _ _ fun σ2 Hs3 H3 f3 hS => ?_
      have B3 := B.fw f3
      obtain ⟨w1, w2, w3⟩ := hs i σ2 Hs3 hlt ((a0.trans f1.b).trans B3.b) hS
      refine ⟨w1, w2 H3 B3.c _ fun H4 e4 => ?_⟩
      have B4 := B3.fw (Fw.skip B3.c e4)
      cases hf : f i with
      | false =>
        show i + 1 ≤ n ∧ _
        rw [gvn_no hf]
        exact ⟨hlt, Hs3, B4⟩
      | true =>
        show te σ2 H4 _
        refine w3 hf Hs3 H4 (Ex.refl _) B4.c _ fun v Hs5 H5 f5 hv => ?_
        have B5 := B4.fw f5
        obtain ⟨xs, hx, hd⟩ := B5.l
        refine ⟨xs, hx, sz_lt ?_, hlt, Hs5, ?_⟩
        · rw [dps_len hd]
          have := gvn_len i f r
          omega
        · rw [gvn_yes hf]
          refine ⟨?_, B5.b, ?_, B5.d, B5.n, _, upd_same, dps_app hd (dps_one hv)⟩
          · exact Ex.mut B5.a hD
          · exact Ex.mut B5.c B5.n
    · have ei : i = n := by omega
      subst ei
      obtain ⟨xs, hx, hd⟩ := B.l
      refine .inl ⟨(hJ Hs H' B.b B.c).1, q _ (upd Hs D (.lst xs)) H' (f1.trans ⟨B.a, B.b.trans (Ex.new B.n), fun x o e => ?_, fun x o e nn => ?_⟩) (.lst (sq_of upd_same) (dps_ex (Ex.new B.n) hd))⟩
      · by_cases hx' : x = D
        · subst hx'; rw [upd_same] at e; rw [← e]; exact hx
        · rw [upd_ne hx'] at e; exact B.c x o e
      · rw [upd_ne (ne_of_none e hD)]
        exact B.d x o e nn
/-- over a known list -/
theorem evd_lcA {α : Type} {wi : TI} {g : TG} {tt : TT} {vs : List Nat} {S : Nat → L2.St → L2.St → Hp → Prop} (as : List α) (p : α → Bool) (h : α → PyData) (hw : Wk wi g σ H as.length S) (hn : as.length ≤ 100000)
    (hs : ∀ i a σ2 H', as[i]? = some a → Ex H H' → S i (wipe σ vs) σ2 H' → wipe σ2 vs = wipe σ vs ∧ EvT tt σ2 H' (p a) ∧ (p a = true → EvD K te σ2 H' (h a))) : EvD K (tLc wi g tt te vs) σ H (.list ((as.filter p).map h)) := by
  have key := evd_lc (K := K) (te := te) (tt := tt) (vs := vs) (fun i => match as[i]? with | some a => p a | none => false) (fun i => match as[i]? with | some a => h a | none => .none) hw hn fun i σ2 H' hi e hS => by
    have e1 : as[i]? = some as[i] := List.getElem?_eq_getElem hi
    obtain ⟨w1, w2, w3⟩ := hs i _ σ2 H' e1 e hS
    exact ⟨w1, by rw [e1]; exact w2, by rw [e1]; exact w3⟩
  have e := gvn_take as (fun i => match as[i]? with | some a => p a | none => false) (fun i => match as[i]? with | some a => h a | none => .none) p h (fun i a e => by rw [e]) (fun i a e => by rw [e]) as.length (Nat.le_refl _)
  rw [e, List.take_length] at key
  exact key
theorem et_yes : EvT tYes σ H true := fun H1 _ _ q => q H1 (Ex.refl _)
/-- without tests -/
theorem evd_lcM {α : Type} {wi : TI} {g : TG} {vs : List Nat} {S : Nat → L2.St → L2.St → Hp → Prop} (as : List α) (h : α → PyData) (hw : Wk wi g σ H as.length S) (hn : as.length ≤ 100000)
    (hs : ∀ i a σ2 H', as[i]? = some a → Ex H H' → S i (wipe σ vs) σ2 H' → wipe σ2 vs = wipe σ vs ∧ EvD K te σ2 H' (h a)) : EvD K (tLc wi g tYes te vs) σ H (.list (as.map h)) := by
  have key := evd_lcA (K := K) (te := te) (tt := tYes) (vs := vs) as (fun _ => true) h hw hn fun i a σ2 H' hi e hS => ⟨(hs i a σ2 H' hi e hS).1, et_yes, fun _ => (hs i a σ2 H' hi e hS).2⟩
  rw [List.filter_eq_self.mpr fun _ _ => rfl] at key
  exact key
end
end K02
set_option Elab.async false
set_option linter.all false
set_option maxRecDepth 100000
set_option maxHeartbeats 4000000
/-! ### the text by places -/
namespace K02
open PySem PySem.Spec PyProof.Rows L2
def top (i : Nat) : Stmt := PySem.Challenge.pw_allbrokers_k02_whole_least_falls.main.body.getD i (.Pass ⟨0, 0, 0, 0⟩)
abbrev sBelow : Stmt := top 8
abbrev sLeast : Stmt := top 9
abbrev sTabledI : Stmt := inClass (top 12) 0
abbrev sNumber : Stmt := top 16
abbrev sWord : Stmt := top 17
abbrev sStep : Stmt := top 18
abbrev sMachineI : Stmt := inClass (top 19) 0
abbrev sStates : Stmt := top 21
abbrev sLast : Stmt := top 22
abbrev sWithin : Stmt := top 24
abbrev sLeastOf : Stmt := top 25
abbrev sFalls : Stmt := top 26
abbrev sAllow : Stmt := top 27
abbrev sLimits : Stmt := top 28
abbrev sAdderI : Stmt := inClass (top 29) 0
abbrev sAdderC : Stmt := inClass (top 29) 1
abbrev sWaysI : Stmt := inClass (top 30) 0
abbrev sOffer : Stmt := inClass (top 30) 1
abbrev sRun : Stmt := inClass (top 30) 2
abbrev sTable : Stmt := inClass (top 30) 3
abbrev sWLeast : Stmt := inClass (top 30) 4
abbrev sRunTo : Stmt := inClass (top 30) 5
abbrev sIsTable : Stmt := top 31
abbrev sLeastI : Stmt := inClass (top 32) 1
abbrev sShows : Stmt := inClass (top 32) 3
abbrev sLeastFalls : Stmt := top 33
abbrev sHolds : Stmt := top 34
abbrev lDraw : Stmt := top 36
abbrev lMachine : Stmt := top 37
abbrev lSome : Stmt := top 38
abbrev lVectors : Stmt := top 39
abbrev lLeast : Stmt := top 40
abbrev lRunRight : Stmt := top 41
abbrev lFalls : Stmt := top 42
abbrev lBelow : Stmt := top 43
abbrev lClosed : Stmt := top 44
abbrev lAllow : Stmt := top 45
abbrev lRaised : Stmt := top 47
abbrev sLaw : Stmt := top 48

def dD (x : Str) (st : Stmt) : He.DefD := ⟨(x, none), x, x, defArgs st, defBody st, defScope st, [], []⟩
def dM (C x q : Str) (st : Stmt) : He.DefD := ⟨(C, some x), x, q, defArgs st, defBody st, defScope st, [], []⟩
def fn : List He.DefD := [
  dD "is_below" sBelow, dD "is_least" sLeast, dM "Tabled" "__init__" "Tabled.__init__" sTabledI, dD "is_number" sNumber, dD "is_word" sWord, dD "is_step" sStep, dM "Machine" "__init__" "Machine.__init__" sMachineI,
  dD "check_states" sStates, dD "last_state" sLast, dD "is_within" sWithin, dD "least_of" sLeastOf, dD "falls_of" sFalls, dD "check_allowances" sAllow, dD "limits_of" sLimits,
  dM "Adder" "__init__" "Adder.__init__" sAdderI, dM "Adder" "__call__" "Adder.__call__" sAdderC, dM "Ways" "__init__" "Ways.__init__" sWaysI, dM "Ways" "offer" "Ways.offer" sOffer, dM "Ways" "run" "Ways.run" sRun,
  dM "Ways" "table" "Ways.table" sTable, dM "Ways" "least" "Ways.least" sWLeast, dM "Ways" "run_to" "Ways.run_to" sRunTo, dD "is_table" sIsTable, dD "is_below" sBelow, dM "Least" "shows" "Least.shows" sShows,
  dD "least_falls" sLeastFalls, dD "holds_for" sHolds, dD "_law_draw" lDraw, dD "_law_machine" lMachine, dD "_law_some" lSome, dD "_law_vectors" lVectors, dD "_law_least" lLeast, dD "_law_run_right" lRunRight,
  dD "_law_falls" lFalls, dD "_law_below" lBelow, dD "_law_closed" lClosed, dD "_law_allowances" lAllow, dD "_law_raised_right" lRaised, dD "law" sLaw]
def globs1 : List Str := ["is_below", "is_least", "is_number", "is_word", "is_step", "check_states", "last_state", "is_within", "least_of", "falls_of", "check_allowances", "limits_of", "is_table", "least_falls", "holds_for"]
def globs2 : List Str := ["_law_draw", "_law_machine", "_law_some", "_law_vectors", "_law_least", "_law_run_right", "_law_falls", "_law_below", "_law_closed", "_law_allowances", "_law_raised_right", "law",
  "Machine", "Adder", "Ways", "Least", "Tabled", "BadStates", "BadRun", "BadMachine", "BadAllowances"]
def globs : List Str := globs1 ++ globs2
def frees : List Str := ["all", "any", "zip", "len", "range", "sorted", "tuple", "list", "dict", "isinstance", "int", "bool", "str", "enumerate", "set", "super"]
def classes : List Str := ["Machine", "Adder", "Ways", "Least"]
def noats : List (Str × Str) := [("Machine", "many"), ("Machine", "steps"), ("Machine", "ways"), ("Machine", "kinds"), ("Machine", "words"), ("Adder", "spots"),
  ("Ways", "machine"), ("Ways", "limits"), ("Ways", "after"), ("Ways", "costs"), ("Ways", "origins"), ("Ways", "rest"), ("Least", "costs"), ("Least", "vectors"), ("Least", "runs")]
def meths : List (Str × Str) := [("Ways", "offer"), ("Ways", "run"), ("Ways", "table"), ("Ways", "least"), ("Ways", "run_to"), ("Least", "shows")]
/-- what the head tells of the module -/
structure G (K : PySem.W.Frag) (mg : Str → Option Value) : Prop where
  free : ∀ x ∈ frees, mg x = none
  glob : ∀ x ∈ globs, mg x = some (.ref (He.ga K x))
  fns : ∀ d ∈ fn, ∃ fd, FunD K d.name d.qual d.params d.body d.scope (d.dvs K) (d.kws K) (He.fAd K d.at_) fd
  states : ∃ t, mg "MOST_STATES" = some (.int 3000 t)
  letters : ∃ t, mg "MOST_LETTERS" = some (.int 8 t)
  cls : ∀ C ∈ classes, Cls K (He.ga K C)
  noat : ∀ p ∈ noats, NoAttr K (He.ga K p.1) p.2
  meth : ∀ p ∈ meths, Meth K (He.ga K p.1) p.2 (He.ma K (He.ga K p.1) p.2)
  mkr : ∀ C ∈ classes, Mk K (He.ga K C) (He.ma K (He.ga K C) "__init__")
  call : StX.CallO K (He.ga K "Adder") (He.ma K (He.ga K "Adder") "__call__")
  bad : PySem.W.excIn K (He.ga K "BadStates") He.veBase "ValueError.__new__" = true ∧ PySem.W.keepIn K (.ref (He.ga K "BadStates")) = true ∧ PySem.W.subIn K (.ref (He.ga K "BadStates")) (.type "BaseException") = some true ∧ PySem.W.typeIn K (.ref (He.ga K "BadStates")) = some (.type "type")
  badm : PySem.W.exmOne K (.ref (He.ga K "BadStates")) (.ref (He.ga K "BadStates")) = some true
/-- a def of the text keeps its promise -/
def Ok (P : Program) (w : World) (K : PySem.W.Frag) (mg : Str → Option Value) (base : Heap) (CX : CXT) (k : Nat) (f : Addr) (ps : List Str) (sp : Sp) : Prop :=
  ∃ fd, FnOk P w K mg base CX k f fd ps sp ∧ Binds K fd ps [] ∧ PySem.W.keepIn K (.ref f) = true
section
variable {P : Program} {w : World} {K : PySem.W.Frag} {mg : Str → Option Value} {base : Heap}
theorem G.fr (T : G K mg) (x : Str) (h : x ∈ frees := by decide +kernel) : mg x = none := T.free x h
theorem G.gl (T : G K mg) (x : Str) (h : x ∈ globs := by decide +kernel) : mg x = some (.ref (He.ga K x)) := T.glob x h
theorem G.cl (T : G K mg) (C : Str) (h : C ∈ classes := by decide +kernel) : Cls K (He.ga K C) := T.cls C h
theorem G.no (T : G K mg) (C f : Str) (h : (C, f) ∈ noats := by decide +kernel) : NoAttr K (He.ga K C) f := T.noat _ h
theorem G.me (T : G K mg) (C f : Str) (h : (C, f) ∈ meths := by decide +kernel) : Meth K (He.ga K C) f (He.ma K (He.ga K C) f) := T.meth _ h
theorem G.make (T : G K mg) (C : Str) (h : C ∈ classes := by decide +kernel) : Mk K (He.ga K C) (He.ma K (He.ga K C) "__init__") := T.mkr C h
theorem G.fun0 (T : G K mg) (i : Nat) {x : Str} {st : Stmt} (h : fn[i]? = some (dD x st) := by rfl) : ∃ fd, FunD K x x (defArgs st) (defBody st) (defScope st) [] [] (He.ga K x) fd := T.fns _ (List.mem_of_getElem? h)
theorem G.funM (T : G K mg) (i : Nat) {C x q : Str} {st : Stmt} (h : fn[i]? = some (dM C x q st) := by rfl) : ∃ fd, FunD K x q (defArgs st) (defBody st) (defScope st) [] [] (He.ma K (He.ga K C) x) fd := T.fns _ (List.mem_of_getElem? h)
/-- THE RULE for a def of which no exception leaves -/
theorem ok_of {x q : Str} {st : Stmt} {f : Addr} {fd : FuncData} {N ps : List Str} {k : Nat} {sp : Sp} (F : FunD K x q (defArgs st) (defBody st) (defScope st) [] [] f fd) (S : FnScope N ps (defScope st)) (len : ∀ vs H Q E, sp vs H Q E → vs.length = ps.length)
    (hb : ∀ (kV doc pm : Value) (an : Option Addr) (cdv ct : Value) (us : List Value), us.length = ps.length → bindArgs (PySem.W.fnOf x q (defArgs st) (defBody st) (defScope st) .none kV doc pm an cdv ct) ⟨us, []⟩ = pure (ps.zip us))
    (hbody : ∀ (cdv : Value) (A : Around) (outer : List Env) (s : Shared) (H : Hp) (vs : List V) (Q : VK) (E : XK), Room k (A.deeper (envOfC q (defScope st) s.heap.objs.size f cdv)) → sp vs H Q E →
      ∃ t, PSs (cxOf CX0 P w K mg base N q (defScope st) f cdv A outer s H E).nox (defBody st) t ∧ t { nx := fun _ H' => Q .non H', rt := Q } (start N vs) H) : Ok P w K mg base CX0 (k + 1) f ps sp :=
  ⟨fd, F.ok S len fun cdv A outer s H vs Q E hr h => by
    obtain ⟨t, h1, h2⟩ := hbody cdv A outer s H vs Q E hr h
    exact ⟨t, h1.nox, h2⟩, F.bindsN hb, F.kp⟩
/-- .. for one that may raise -/
theorem ok_ofX {x q : Str} {st : Stmt} {f : Addr} {fd : FuncData} {N ps : List Str} {k : Nat} {sp : Sp} (F : FunD K x q (defArgs st) (defBody st) (defScope st) [] [] f fd) (S : FnScope N ps (defScope st)) (len : ∀ vs H Q E, sp vs H Q E → vs.length = ps.length)
    (hb : ∀ (kV doc pm : Value) (an : Option Addr) (cdv ct : Value) (us : List Value), us.length = ps.length → bindArgs (PySem.W.fnOf x q (defArgs st) (defBody st) (defScope st) .none kV doc pm an cdv ct) ⟨us, []⟩ = pure (ps.zip us))
    (hbody : ∀ (cdv : Value) (A : Around) (outer : List Env) (s : Shared) (H : Hp) (vs : List V) (Q : VK) (E : XK), Room k (A.deeper (envOfC q (defScope st) s.heap.objs.size f cdv)) → sp vs H Q E →
      ∃ t, PSs (cxOf (L2.CX P w) P w K mg base N q (defScope st) f cdv A outer s H E) (defBody st) t ∧ t { nx := fun _ H' => Q .non H', rt := Q } (start N vs) H) : Ok P w K mg base (L2.CX P w) (k + 1) f ps sp :=
  ⟨fd, F.ok S len hbody, F.bindsN hb, F.kp⟩
theorem Ok.mono {CX : CXT} {j k : Nat} {f : Addr} {ps : List Str} {sp : Sp} (h : Ok P w K mg base CX j f ps sp) (hk : j ≤ k) : Ok P w K mg base CX k f ps sp := by
  obtain ⟨fd, F, b, kp⟩ := h
  exact ⟨fd, F.mono hk, b, kp⟩
end
end K02
set_option Elab.async false
set_option linter.all false
set_option maxRecDepth 100000
set_option maxHeartbeats 4000000
/-! ### is_below, is_least, is_within -/
namespace K02
open PySem PySem.Spec PyProof.Rows L2 Evl

/-! over lists of things that are told by enc -/
section
variable {K : PySem.W.Frag} {σ : L2.St} {H H' : Hp} {ta tb te tl : TE} {x y z v : V}
theorem Wk.mono' {wi : TI} {g : TG} {n : Nat} {S S' : Nat → L2.St → L2.St → Hp → Prop} (h : Wk wi g σ H n S) (hS : ∀ i σb σ2 H2, i < n → S i σb σ2 H2 → S' i σb σ2 H2) : Wk wi g σ H n S' := fun Hs H0 a b R q =>
  h Hs H0 a b R fun J Hs1 H1 f hJ => q J Hs1 H1 f fun Hs' H' e1 e2 => ⟨(hJ Hs' H' e1 e2).1, fun i hi => ⟨((hJ Hs' H' e1 e2).2 i hi).1, fun x H'' y σb Q k => ((hJ Hs' H' e1 e2).2 i hi).2 x H'' y σb Q fun σ2 Hs3 H3 f3 s => k σ2 Hs3 H3 f3 (hS i σb σ2 Hs3 hi s)⟩⟩
theorem wk_listA {α : Type} (as : List α) (ea : α → PyData) {j : Nat} (h : EvD K tl σ H (.list (as.map ea))) : Wk (iList K tl) (gName j) σ H as.length (S1 j fun i v H2 => ∃ a, as[i]? = some a ∧ Dp K H2 v (ea a)) := by
  have w := wk_list (j := j) h
  rw [List.length_map] at w
  refine w.mono' fun i σb σ2 H2 hi s => ?_
  obtain ⟨v, ⟨d, hd, hp⟩, e⟩ := s
  rw [List.getElem?_map, List.getElem?_eq_getElem hi] at hd
  cases hd
  exact ⟨v, ⟨_, List.getElem?_eq_getElem hi, hp⟩, e⟩
theorem wk_tupA {α : Type} (as : List α) (ea : α → PyData) {j : Nat} (h : EvD K tl σ H (.tuple (as.map ea))) : Wk (iTup K tl) (gName j) σ H as.length (S1 j fun i v H2 => ∃ a, as[i]? = some a ∧ Dp K H2 v (ea a)) := by
  have w := wk_tup (j := j) h
  rw [List.length_map] at w
  refine w.mono' fun i σb σ2 H2 hi s => ?_
  obtain ⟨v, ⟨d, hd, hp⟩, e⟩ := s
  rw [List.getElem?_map, List.getElem?_eq_getElem hi] at hd
  cases hd
  exact ⟨v, ⟨_, List.getElem?_eq_getElem hi, hp⟩, e⟩
theorem wk_zipA {α β : Type} (as : List α) (bs : List β) (ea : α → PyData) (eb : β → PyData) {ta : TA} {p q : Bool} {j k : Nat} (h : EvAD K ta σ H [dSeq p (as.map ea), dSeq q (bs.map eb)]) :
    Wk (iZipM K ta) (g2 K j k) σ H (as.zip bs).length (S2 j k fun i v w H2 => ∃ a b, (as.zip bs)[i]? = some (a, b) ∧ Dp K H2 v (ea a) ∧ Dp K H2 w (eb b)) := by
  have w := wk_zip (j := j) (k := k) h
  rw [List.length_map, List.length_map, ← List.length_zip] at w
  refine w.mono' fun i σb σ2 H2 hi s => ?_
  obtain ⟨v, w, ⟨d, e, hd, he, hp, hq⟩, e1⟩ := s
  rw [List.length_zip] at hi
  have h1 : i < as.length := by omega
  have h2 : i < bs.length := by omega
  rw [List.getElem?_map, List.getElem?_eq_getElem h1] at hd
  rw [List.getElem?_map, List.getElem?_eq_getElem h2] at he
  cases hd
  cases he
  exact ⟨v, w, ⟨as[i], bs[i], by rw [List.getElem?_eq_getElem (by rw [List.length_zip]; omega), List.getElem_zip], hp, hq⟩, e1⟩
theorem ev_isN (h : Ev ta σ H v) : Ev (tIsN ta) σ H (.bl (decide (v = .non))) := fun H1 e Q q => h H1 e _ fun H2 e2 => q H2 e2
theorem ev_notN (h : Ev ta σ H v) : Ev (tNotN ta) σ H (.bl (!decide (v = .non))) := fun H1 e Q q => h H1 e _ fun H2 e2 => q H2 e2
theorem ev_le {i j : Int} (ha : Ev ta σ H (.int i)) (hb : Ev tb σ H (.int j)) : Ev (tOp (rI0 fun i j => .bl (decide (i ≤ j))) ta tb) σ H (.bl (decide (i ≤ j))) := ev_op ha hb rv_I0
theorem evd_bl {b : Bool} (h : Ev te σ H (.bl b)) : EvD K te σ H (.bool b) := evd_of h (.bl b)
theorem evd_int {i : Int} (h : Ev te σ H (.int i)) : EvD K te σ H (.int i) := evd_of h (.int i)
theorem evd_str {i : Str} (h : Ev te σ H (.str i)) : EvD K te σ H (.str i) := evd_of h (.str i)
end

/-! vectors, limits -/
abbrev Vec := List Int
def dV (v : Vec) : PyData := .tuple (v.map .int)
def dO : Option Int → PyData
  | none => .none
  | some i => .int i
/-- a number is within a limit -/
def inL (n : Int) : Option Int → Bool
  | none => true
  | some i => decide (n ≤ i)
def belowO (v : Vec) (l : List (Option Int)) : Bool := (v.zip l).all fun p => inL p.1 p.2
def below (v w : Vec) : Bool := (v.zip w).all fun p => decide (p.1 ≤ p.2)
theorem belowO_some (v w : Vec) : belowO v (w.map some) = below v w := by
  unfold belowO below
  rw [List.zip_map_right, List.all_map]
  rfl
def isLeast (v : Vec) (os : List Vec) : Bool := !(os.any fun o => decide (o ≠ v) && below o v)
theorem dV_seq (w : Vec) : dV w = dSeq true ((w.map some).map dO) := by
  unfold dV dSeq
  rw [List.map_map]
  rfl
theorem eqvAll_ints : ∀ v w : Vec, PyData.eqvAll (v.map .int) (w.map .int) = decide (v = w)
  | [], [] => by simp [PyData.eqvAll]
  | [], _ :: _ => by simp [PyData.eqvAll]
  | _ :: _, [] => by simp [PyData.eqvAll]
  | a :: v, b :: w => by
    show PyData.eqvAll (.int a :: v.map .int) (.int b :: w.map .int) = _
    rw [PyData.eqvAll, eqvAll_ints v w]
    by_cases e : a = b <;> simp [PyData.eqv, e]
theorem eqv_V (v w : Vec) : PyData.eqv (dV v) (dV w) = decide (v = w) := by
  unfold dV
  rw [PyData.eqv, eqvAll_ints]

/-! promises -/
def spBelow (K : PySem.W.Frag) : Sp := fun vs H Q _ => ∃ (Hs : Hp) (x y : V) (v : Vec) (t : Bool) (l : List (Option Int)), vs = [x, y] ∧ Ex Hs H ∧ Dp K Hs x (dV v) ∧ Dp K Hs y (dSeq t (l.map dO)) ∧ v.length ≤ 1000 ∧ ∀ H2, Ex H H2 → Q (.bl (belowO v l)) H2
def spLeast (K : PySem.W.Frag) : Sp := fun vs H Q _ => ∃ (Hs : Hp) (x y : V) (v : Vec) (os : List Vec), vs = [x, y] ∧ Ex Hs H ∧ Dp K Hs x (dV v) ∧ Dp K Hs y (.list (os.map dV)) ∧ (∀ o ∈ v :: os, o.length ≤ 1000) ∧ os.length ≤ 100000 ∧ ∀ H2, Ex H H2 → Q (.bl (isLeast v os)) H2

section
variable {P : Program} {w : World} {K : PySem.W.Frag} {mg : Str → Option Value} {base : Heap}
theorem scBelow : FnScope ["vector", "limits", "number", "limit"] ["vector", "limits"] (defScope sBelow) := ⟨rfl, rfl, rfl, by decide +kernel, rfl, by decide +kernel, by decide +kernel⟩
theorem ok_below (T : G K mg) : Ok P w K mg base CX0 1 (He.ga K "is_below") ["vector", "limits"] (spBelow K) := by
  obtain ⟨fd, F⟩ := T.fun0 0
  refine ok_of F scBelow (fun vs H Q E h => ?_) (fun _ _ _ _ _ _ us hl => match us, hl with | [_, _], _ => rfl) fun cdv A outer s H vs Q E hr h => ?_
  · obtain ⟨_, x, y, _, _, _, rfl, _⟩ := h
    rfl
  · obtain ⟨Hs, x, y, v, t, l, rfl, eH, hx, hy, hz, k⟩ := h
    refine ⟨_, pss_one (ps_ret (pe_callB (cr_all rfl) rfl (T.fr "all") (by decide +kernel) (pa_cons (pe_lc (own := [("number", 2), ("limit", 3)]) (g := g2 K 2 3) (tt := tYes) rfl scBelow.nd
      (pi_zipM rfl (T.fr "zip") (pa_cons (pv 0) (pa_cons (pv 1) pa_nil))) (blkOk_by (N := ["vector", "limits", "number", "limit"]) (sc := defScope sBelow) (by decide +kernel))
      (fun _ _ _ _ _ => pg_tup rfl (pgs_cons (pg_name (i := 2) scBelow.nd rfl (Or.inl rfl)) (pgs_cons (pg_name (i := 3) scBelow.nd rfl (Or.inl rfl)) pgs_nil)))
      (fun _ _ _ _ _ => pts_nil) (fun _ _ _ _ _ => pe_or (pe_cmp (pc_isN (pv 3)) rfl) (pe_one (pe_cmpR op_le (pv 2) (pv 3) (nomark _))))) pa_nil))), ?_⟩
    have ea : EvAD K (tCons (tVar 0) (tCons (tVar 1) tNil)) (start ["vector", "limits", "number", "limit"] [x, y]) Hs [dSeq true (v.map .int), dSeq t (l.map dO)] :=
      ead_cons (evd_var (v := x) rfl hx) (ead_cons (evd_var (v := y) rfl hy) ead_nil)
    have key := evd_lcM (K := K) (vs := [2, 3]) (te := tOrV (tIsN (tVar 3)) (tOp (rI0 fun i j => .bl (decide (i ≤ j))) (tVar 2) (tVar 3))) (v.zip l) (fun p => PyData.bool (inL p.1 p.2)) (wk_zipA v l .int dO (j := 2) (k := 3) ea) (by rw [List.length_zip]; omega) fun i a σ2 H' hi e hS => by
      obtain ⟨u, u', ⟨a1, b1, e1, p1, p2⟩, rfl⟩ := hS
      rw [hi] at e1
      cases e1
      have q1 := dp_int p1
      subst q1
      refine ⟨rfl, evd_bl ?_⟩
      cases b1 with
      | none =>
        have q2 := dp_non (show Dp K H' u' .none from p2)
        subst q2
        exact ev_orV (a := true) (b := true) (ev_isN (ev_var (v := .non) rfl)) fun z => nomatch z
      | some m =>
        have q2 := dp_int (show Dp K H' u' (.int m) from p2)
        subst q2
        exact ev_orV (a := false) (ev_isN (ev_var (v := .int m) rfl)) fun _ => ev_le (ev_var rfl) (ev_var rfl)
    have em : (v.zip l).map (fun p => PyData.bool (inL p.1 p.2)) = ((v.zip l).map fun p => inL p.1 p.2).map PyData.bool := by
      rw [List.map_map]
      rfl
    rw [em] at key
    have e2 : (((v.zip l).map fun p => inL p.1 p.2).all id) = belowO v l := by
      rw [List.all_map]
      rfl
    exact ev_all key H eH _ fun H2 e => by
      rw [e2]
      exact k H2 e
theorem scWithin : FnScope ["vector", "limits"] ["vector", "limits"] (defScope sWithin) := ⟨rfl, rfl, rfl, by decide +kernel, rfl, by decide +kernel, by decide +kernel⟩
theorem ok_within (T : G K mg) : Ok P w K mg base CX0 2 (He.ga K "is_within") ["vector", "limits"] (spBelow K) := by
  obtain ⟨fd, F⟩ := T.fun0 9
  obtain ⟨fdB, GB, bB, kB⟩ := ok_below (P := P) (w := w) (base := base) T
  refine ok_of F scWithin (fun vs H Q E h => ?_) (fun _ _ _ _ _ _ us hl => match us, hl with | [_, _], _ => rfl) fun cdv A outer s H vs Q E hr h => ?_
  · obtain ⟨_, x, y, _, _, _, rfl, _⟩ := h
    rfl
  · refine ⟨_, pss_one (ps_ret (pe_call GB hr rfl (T.gl "is_below") kB bB .nil pass0 (pa_cons (pv 0) (pa_cons (pv 1) pa_nil)))), ?_⟩
    obtain ⟨Hs, x, y, v, t, l, rfl, k⟩ := h
    exact ⟨x, rfl, y, rfl, Hs, x, y, v, t, l, rfl, k⟩
theorem shaped_V (v : Vec) : SeqAt.shaped (dV v) = true := by
  have h : ∀ v : Vec, PyData.canLayAll0 (v.map .int) = true := fun v => by
    induction v with
    | nil => rfl
    | cons a v ih =>
      show PyData.canLayAll0 (.int a :: v.map .int) = true
      rw [PyData.canLayAll0, ih]
      rfl
  have h2 : PyData.depthAll (v.map .int) = 0 := PySem.W.depth_ints v
  unfold SeqAt.shaped dV
  rw [PyData.canLay0, h v, PyData.depth, h2]
  rfl
theorem scLeast : FnScope ["vector", "others", "other"] ["vector", "others"] (defScope sLeast) := ⟨rfl, rfl, rfl, by decide +kernel, rfl, by decide +kernel, by decide +kernel⟩
theorem ok_least (T : G K mg) : Ok P w K mg base CX0 2 (He.ga K "is_least") ["vector", "others"] (spLeast K) := by
  obtain ⟨fd, F⟩ := T.fun0 1
  obtain ⟨fdB, GB, bB, kB⟩ := ok_below (P := P) (w := w) (base := base) T
  refine ok_of F scLeast (fun vs H Q E h => ?_) (fun _ _ _ _ _ _ us hl => match us, hl with | [_, _], _ => rfl) fun cdv A outer s H vs Q E hr h => ?_
  · obtain ⟨_, x, y, _, _, rfl, _⟩ := h
    rfl
  · obtain ⟨Hs, x, y, v, os, rfl, eH, hx, hy, hz, hz2, k⟩ := h
    refine ⟨_, pss_one (ps_ret (pe_not (pe_callB (cr_any rfl) rfl (T.fr "any") (by decide +kernel) (pa_cons (pe_lc (own := [("other", 2)]) (g := gName 2) (tt := tYes) rfl scLeast.nd
      (te := tAndV (tOp (rNeD K) (tVar 2) (tVar 0)) (tCall (spBelow K) [] E0 (tCons (tVar 2) (tCons (tVar 0) tNil)))) (pi_list (pv 1)) (blkOk_by (N := ["vector", "others", "other"]) (sc := defScope sLeast) (by decide +kernel))
      (fun _ _ _ _ _ => pg_name (i := 2) scLeast.nd rfl (Or.inl rfl))
      (fun _ _ _ _ _ => pts_nil) (fun _ _ _ _ _ => pe_and (pe_cmpR (op_neD hr.units) (pv 2) (pv 0) (nomark _)) (pe_one (pe_call GB hr rfl (T.gl "is_below") kB bB .nil pass0 (pa_cons (pv 2) (pa_cons (pv 0) pa_nil)))))) pa_nil)))), ?_⟩
    have key := evd_lcM (K := K) (vs := [2]) (te := tAndV (tOp (rNeD K) (tVar 2) (tVar 0)) (tCall (spBelow K) [] E0 (tCons (tVar 2) (tCons (tVar 0) tNil)))) os (fun o => PyData.bool (decide (o ≠ v) && below o v)) (wk_listA os dV (j := 2) (evd_var (i := 1) (σ := start ["vector", "others", "other"] [x, y]) (v := y) rfl hy)) hz2 fun i o σ2 H' hi e hS => by
      obtain ⟨u, ⟨a1, e1, p1⟩, rfl⟩ := hS
      rw [hi] at e1
      cases e1
      refine ⟨rfl, evd_bl ?_⟩
      have dx : Dp K H' x (dV v) := dp_ex e hx
      have h1 : Ev (tOp (rNeD K) (tVar 2) (tVar 0)) ((wipe (start ["vector", "others", "other"] [x, y]) [2]).set 2 (some u)) H' (.bl (decide (o ≠ v))) := by
        have q := ev_neD (evd_var (K := K) (i := 2) (σ := (wipe (start ["vector", "others", "other"] [x, y]) [2]).set 2 (some u)) rfl p1) (evd_var (i := 0) (v := x) rfl dx) (shaped_V o) (shaped_V v)
        rw [eqv_V] at q
        have e3 : (!decide (o = v)) = decide (o ≠ v) := by simp
        rw [e3] at q
        exact q
      refine ev_andV h1 fun _ => evb_call (R := fun vs H2 => DpAll K H2 vs [dV o, dV v]) (ead_cons (evd_var rfl p1) (ead_cons (evd_var (v := x) rfl dx) ead_nil)) fun Hs1 H1 _ e4 vs hvs Q hQ => ?_
      cases hvs with
      | cons r1 r2 =>
        cases r2 with
        | cons r2 r3 =>
          cases r3
          refine ⟨Hs1, _, _, o, true, v.map some, rfl, e4, r1, by rw [← dV_seq]; exact r2, hz o (List.mem_cons_of_mem _ (List.mem_of_getElem? hi)), fun H2 e5 => ?_⟩
          rw [belowO_some]
          exact hQ H2 e5
    have em : os.map (fun o => PyData.bool (decide (o ≠ v) && below o v)) = (os.map fun o => decide (o ≠ v) && below o v).map PyData.bool := by
      rw [List.map_map]
      rfl
    rw [em] at key
    have e2 : (!((os.map fun o => decide (o ≠ v) && below o v).any id)) = isLeast v os := by
      rw [List.any_map]
      rfl
    have fin := ev_notV (ev_any key)
    rw [e2] at fin
    exact fin H eH _ k
end
end K02
set_option Elab.async false
set_option linter.all false
set_option maxRecDepth 100000
set_option maxHeartbeats 4000000
/-! ### dicts whose keys are tuples, nested: as an object of the layer -/
namespace K02
open PySem PySem.Spec PyProof.Rows L2 Evl

/-- the entries: the key, where its tuple stands, the value -/
abbrev NX := List (NestedKey × Addr × V)
def NPr : NX → List (NestedKey × Addr × Value) → Prop := Paired fun x y => x.1 = y.1 ∧ x.2.1 = y.2.1 ∧ L2.RelV x.2.2 y.2.2
def NdR (P : Program) (w : World) (a : Addr) (xs : NX) (h : Heap) : Prop :=
  xs.length ≤ sizeLine ∧ (a == sysModules) = false ∧ ∃ ys, NPr xs ys ∧ (ys.map (·.1)).Nodup ∧ ∃ o es ep, h.get? a = some o ∧ o.ExactDict ∧ o.data = .dict es ep ∧ es.toList = ys.map (entryOfKey (nestedKind P w))
def NdO (P : Program) (w : World) (a : Addr) (xs : NX) : HO := .ext (NdR P w a xs)
/-- the keys' tuples stand -/
def NdK (K : PySem.W.Frag) (H : Hp) (xs : NX) : Prop := ∀ x ∈ xs, Dp K H (.ref x.2.1) x.1.data ∧ x.1.depth ≤ 8
def ndLook (xs : NX) (k : NestedKey) : Option V := (xs.find? fun x => decide (x.1 = k)).map (·.2.2)
def ndPut (xs : NX) (k : NestedKey) (b : Addr) (v : V) : NX := if (ndLook xs k).isSome = true then xs.map (fun x => if x.1 = k then (x.1, x.2.1, v) else x) else xs ++ [(k, b, v)]
section
variable {P : Program} {w : World} {a : Addr} {xs : NX} {h h' : Heap} {H : Hp}
theorem NdR.at (x : NdR P w a xs h) (k : ∀ o, h.get? a = some o → h'.get? a = some o) : NdR P w a xs h' := by
  obtain ⟨z, m, ys, p, n, o, es, ep, e, r⟩ := x
  exact ⟨z, m, ys, p, n, o, es, ep, k o e, r⟩
theorem ndO_ok (x : NdR P w a xs h) : ObjOk P w H h a (NdO P w a xs) := by
  obtain ⟨z, m, ys, p, n, o, es, ep, e, r⟩ := id x
  exact ⟨x, ⟨o, e⟩, fun h1 h2 q k => q.at k⟩
theorem ndLook_rel {xs : NX} {ys : List (NestedKey × Addr × Value)} (p : NPr xs ys) (k : NestedKey) : L2.RelO (ndLook xs k) ((atKey ys k).map (·.2)) := by
  unfold ndLook atKey
  induction p with
  | nil => exact True.intro
  | @cons x y l m r t ih =>
    obtain ⟨e1, e2, e3⟩ := r
    by_cases q : x.1 = k
    · have q' : y.1 = k := e1 ▸ q
      rw [List.find?_cons_of_pos (by simpa using q), List.find?_cons_of_pos (by simpa using q')]
      exact e3
    · have q' : ¬ y.1 = k := e1 ▸ q
      rw [List.find?_cons_of_neg (by simpa using q), List.find?_cons_of_neg (by simpa using q')]
      exact ih
theorem ndPut_rel {xs : NX} {ys : List (NestedKey × Addr × Value)} (p : NPr xs ys) (k : NestedKey) (b : Addr) {v : V} {u : Value} (r : L2.RelV v u) : NPr (ndPut xs k b v) (storedH ys k b u) := by
  have e := (ndLook_rel p k).isSome_eq
  rw [Option.isSome_map] at e
  unfold ndPut storedH
  rw [e]
  by_cases q : (atKey ys k).isSome = true
  · rw [if_pos q, if_pos q]
    clear e q
    induction p with
    | nil => exact .nil
    | @cons x y l m r' t ih =>
      refine .cons ?_ ih
      obtain ⟨e1, e2, e3⟩ := r'
      by_cases q : x.1 = k
      · have q' : y.1 = k := e1 ▸ q
        unfold putAt
        dsimp only
        rw [if_pos q, if_pos q']
        exact ⟨e1, e2, r⟩
      · have q' : ¬ y.1 = k := e1 ▸ q
        unfold putAt
        dsimp only
        rw [if_neg q, if_neg q']
        exact ⟨e1, e2, e3⟩
  · rw [if_neg q, if_neg q]
    clear e q
    induction p with
    | nil => exact .cons ⟨rfl, rfl, r⟩ .nil
    | cons r' t ih => exact .cons r' ih
theorem ndPut_len (xs : NX) (k : NestedKey) (b : Addr) (v : V) : (ndPut xs k b v).length ≤ xs.length + 1 := by
  unfold ndPut
  split
  · rw [List.length_map]; omega
  · rw [List.length_append]; exact Nat.le_refl _
theorem NdK.ex {K : PySem.W.Frag} {H H' : Hp} (e : Ex H H') (x : NdK K H xs) : NdK K H' xs := fun y hy => ⟨dp_ex e (x y hy).1, (x y hy).2⟩
theorem NdK.put {K : PySem.W.Frag} {k : NestedKey} {b : Addr} {v : V} (x : NdK K H xs) (hk : Dp K H (.ref b) k.data) (hd : k.depth ≤ 8) : NdK K H (ndPut xs k b v) := fun y hy => by
  unfold ndPut at hy
  split at hy
  · obtain ⟨z, hz, e⟩ := List.mem_map.mp hy
    by_cases q : z.1 = k
    · rw [if_pos q] at e; subst e; exact x z hz
    · rw [if_neg q] at e; subst e; exact x z hz
  · rcases List.mem_append.mp hy with m | m
    · exact x y m
    · rw [List.mem_singleton.mp m]; exact ⟨hk, hd⟩
end
section
variable {X : Cx} {pins : List (Addr × Obj)} {σ : L2.St} {H : Hp} {s : Shared} {a b : Addr} {xs : NX} {k : NestedKey} {v : V} {u : Value} {E : Value → Shared → Prop} {A : Around}
mutual
theorem nest_of (I : Inv X pins σ H s) : ∀ (k : NestedKey) (v : V) (u : Value), Dp X.K H v k.data → L2.RelV v u → NestedIs s.heap k u
  | .none, v, u, h, r => by
    rw [NestedKey.data] at h
    rw [dp_non h] at r
    rw [show u = Value.none from r]
    exact .none
  | .num i, v, u, h, r => by
    rw [NestedKey.data] at h
    rw [dp_int h] at r
    obtain ⟨t, e⟩ := (show ∃ t, u = Value.int i t from r)
    rw [e]
    exact .int i t
  | .text x, v, u, h, r => by
    rw [NestedKey.data] at h
    rw [dp_str h] at r
    obtain ⟨t, e⟩ := (show ∃ t, u = Value.str x t from r)
    rw [e]
    exact .text x t
  | .tup ks, v, u, h, r => by
    rw [NestedKey.data] at h
    obtain ⟨p, zs, e, hs, ht⟩ := dp_tup h
    rw [e] at r
    rw [show u = Value.ref p from r]
    obtain ⟨its, rv, ⟨o, ho, hc, n, hd⟩, _⟩ := I.tuple hs
    exact .tup ho hc hd (by simpa using nest_all I ks zs its ht rv)
theorem nest_all (I : Inv X pins σ H s) : ∀ (ks : List NestedKey) (vs : List V) (us : List Value), DpAll X.K H vs (NestedKey.datas ks) → Vals vs us → NestedAll s.heap ks us
  | [], vs, us, h, r => by
    rw [NestedKey.datas] at h
    cases h
    cases r
    exact .nil
  | k :: ks, vs, us, h, r => by
    rw [NestedKey.datas] at h
    cases h with
    | cons h1 h2 =>
      cases r with
      | cons r1 r2 => exact .cons (nest_of I k _ _ h1 r1) (nest_all I ks _ _ h2 r2)
end
theorem nd_key (I : Inv X pins σ H s) (h : Dp X.K H (.ref b) k.data) (hd : k.depth ≤ 8) : (nestedKind X.prog X.w).is s.heap k b := ⟨nest_of I k _ _ h rfl, hd⟩
theorem nd_dict (I : Inv X pins σ H s) (hd : Rd H a (NdO X.prog X.w a xs)) (hk : NdK X.K H xs) : ∃ ys, NPr xs ys ∧ s.heap.DictOfH (nestedKind X.prog X.w) a ys ∧ xs.length ≤ sizeLine ∧ (a == sysModules) = false := by
  obtain ⟨⟨z, m, ys, p, n, o, es, ep, e, r1, r2, r3⟩, -⟩ := (show ObjOk X.prog X.w H s.heap a (NdO X.prog X.w a xs) from hd.ok I.hok)
  refine ⟨ys, p, ⟨o, es, ep, e, r1, r2, r3, fun y hy => ?_, n⟩, z, m⟩
  clear n r3 hd m z
  induction p with
  | nil => cases hy
  | @cons x y' l l' r t ih =>
    rcases List.mem_cons.mp hy with q | q
    · subst q
      obtain ⟨e1, e2, _⟩ := r
      obtain ⟨k1, k2⟩ := hk x List.mem_cons_self
      rw [← e1, ← e2]
      exact nd_key I k1 k2
    · exact ih (fun x hx => hk x (List.mem_cons_of_mem _ hx)) q
/-- k in d, k not in d -/
def rInN (K : PySem.W.Frag) (P : Program) (w : World) (neg : Bool) : R2 := fun x y H Q => ∃ a b xs k, x = .ref b ∧ y = .ref a ∧ Rd H a (NdO P w a xs) ∧ NdK K H xs ∧ Dp K H (.ref b) k.data ∧ k.depth ≤ 8 ∧ Q (.bl (if neg then !(ndLook xs k).isSome else (ndLook xs k).isSome)) H
theorem op_inN (hu : X.A.units + 64 < cLine) : OpR X (compareOp .In) (rInN X.K X.prog X.w false) := by
  intro pins s σ H x y v u Q I rx ry q
  obtain ⟨a, b, xs, k, ex, ey, hd, hk, h1, h2, q⟩ := q
  subst ex ey
  obtain rfl : v = Value.ref b := rx
  obtain rfl : u = Value.ref a := ry
  obtain ⟨ys, p, dd, z, m⟩ := nd_dict I hd hk
  refine wpAny_in_heap (by show X.A.units + 1 + 8 < cLine; omega) (nd_key I h1 h2) m dd ?_
  have e := (ndLook_rel p k).isSome_eq
  rw [Option.isSome_map] at e
  rw [← e]
  exact ⟨.bl (ndLook xs k).isSome, H, I.tok _, rfl, q⟩
theorem op_notInN (hu : X.A.units + 64 < cLine) : OpR X (compareOp .NotIn) (rInN X.K X.prog X.w true) := by
  intro pins s σ H x y v u Q I rx ry q
  obtain ⟨a, b, xs, k, ex, ey, hd, hk, h1, h2, q⟩ := q
  subst ex ey
  obtain rfl : v = Value.ref b := rx
  obtain rfl : u = Value.ref a := ry
  obtain ⟨ys, p, dd, z, m⟩ := nd_dict I hd hk
  refine wpAny_notIn_heap (by show X.A.units + 1 + 8 < cLine; omega) (nd_key I h1 h2) m dd ?_
  have e := (ndLook_rel p k).isSome_eq
  rw [Option.isSome_map] at e
  rw [← e]
  exact ⟨.bl !(ndLook xs k).isSome, H, I.tok _, rfl, q⟩
/-- d[k], there -/
def tNGet (K : PySem.W.Frag) (P : Program) (w : World) (td ty : TE) : TE := fun σ H Q => td σ H fun x H1 => ty σ H1 fun y H2 => ∃ a b xs k v, x = .ref a ∧ y = .ref b ∧ Rd H2 a (NdO P w a xs) ∧ NdK K H2 xs ∧ Dp K H2 (.ref b) k.data ∧ k.depth ≤ 8 ∧ ndLook xs k = some v ∧ Q v H2
theorem pe_nget {o i : Expr} {td ty : TE} {pos : Pos} (hu : X.A.units + 64 < cLine) (ho : PE X o td) (hi : PE X i ty) (hs : NoSl i) : PE X (.Subscript o i pos) (tNGet X.K X.prog X.w td ty) := by
  refine ⟨fun pins s σ H Q I q => ?_⟩
  refine subD_of PySem.F.slot_dict_getitem.lookup hs (thn (ho.run pins s σ H _ I q) fun u1 s1 p1 => ?_)
  obtain ⟨x, H1, I1, rx, q1⟩ := p1
  refine thn (hi.run pins s1 σ H1 _ I1 q1) fun u2 s2 p2 => ?_
  obtain ⟨y, H2, I2, ry, a, b, xs, k, v, ex, ey, hd, hk, h1, h2, hv, q2⟩ := p2
  subst ex ey
  obtain rfl : u1 = Value.ref a := rx
  obtain rfl : u2 = Value.ref b := ry
  obtain ⟨ys, p, dd, z, m⟩ := nd_dict I2 hd hk
  refine ⟨dd.typeIs, ?_⟩
  have e := ndLook_rel p k
  rw [hv] at e
  cases g : atKey ys k with
  | none => rw [g] at e; exact e.elim
  | some r =>
    rw [g] at e
    refine wpAny_getItem_heap (by show X.A.units + 1 + 8 < cLine; omega) (nd_key I2 h1 h2) dd g ?_
    exact ⟨v, H2, I2.tok _, e, q2⟩
/-- d[k] = v -/
def sNPut (K : PySem.W.Frag) (P : Program) (w : World) (td ty tv : TE) : TS := fun D σ H => tv σ H fun v H1 => td σ H1 fun x H2 => ty σ H2 fun y H3 => ∃ a b xs k, x = .ref a ∧ y = .ref b ∧ H3 a = some (NdO P w a xs) ∧ NdK K H3 xs ∧ Dp K H3 (.ref b) k.data ∧ k.depth ≤ 8 ∧ xs.length < sizeLine ∧ D.nx σ (upd H3 a (NdO P w a (ndPut xs k b v)))
theorem nd_write (I : Inv X pins σ H s) {h' : Heap} {t' : Nat} {ys : List (NestedKey × Addr × Value)} {xs' : NX} (hd : H a = some (NdO X.prog X.w a xs)) (m : (a == sysModules) = false) (dd : h'.DictOfH (nestedKind X.prog X.w) a ys) (p : NPr xs' ys) (hz : xs'.length ≤ sizeLine) (sb : Heap.SameBut a s.heap h') :
    Inv X pins σ (upd H a (NdO X.prog X.w a xs')) { s with heap := h', toks := t' } := by
  obtain ⟨o, es, ep, e, r1, r2, r3, _, n⟩ := dd
  exact d_write I (by rw [hd]; exact True.intro) sb ⟨o, e⟩ (ndO_ok ⟨hz, m, ys, p, n, o, es, ep, e, r1, r2, r3⟩)
theorem ps_nput {o i value : Expr} {td ty tv : TE} {pos pos' : Pos} (hu : X.A.units + 64 < cLine) (ho : PE X o td) (hi : PE X i ty) (hv : PE X value tv) (hs : swapsWith value (some (.Subscript o i pos')) pos.line X.env = pure false) :
    PS X (.Assign [.Subscript o i pos'] value pos) (sNPut X.K X.prog X.w td ty tv) := by
  refine ⟨fun pins s σ H D I q => ?_⟩
  refine wpAny_Assign_Subscript (thn (hv.run pins s σ H _ I q) fun u0 s1 p1 => ?_) hs
  obtain ⟨v, H1, I1, rv, q1⟩ := p1
  refine thn (ho.run pins s1 σ H1 _ I1 q1) fun u1 s2 p2 => ?_
  obtain ⟨x, H2, I2, rx, q2⟩ := p2
  refine thn (hi.run pins s2 σ H2 _ I2 q2) fun u2 s3 p3 => ?_
  obtain ⟨y, H3, I3, ry, a, b, xs, k, ex, ey, hd, hk, h1, h2, hz, q3⟩ := p3
  subst ex ey
  obtain rfl : u1 = Value.ref a := rx
  obtain rfl : u2 = Value.ref b := ry
  obtain ⟨ys, p, dd, z, m⟩ := nd_dict I3 (.inl hd) hk
  have hl := ndPut_len xs k b v
  refine wpAny_setItem_heap (hsz := by rw [← Paired.length p]; exact z) (by show X.A.units + 1 + 8 < cLine; omega) (nd_key I3 h1 h2) dd fun h' dd' sb => ?_
  exact ⟨σ, _, nd_write I3 hd m dd' (ndPut_rel p k b rv) (by omega) sb, q3⟩
/-- {} -/
def tDNewN (P : Program) (w : World) : TE := fun _ H Q => ∀ p, H p = none → Q (.ref p) (upd H p (NdO P w p []))
theorem nd_empty {P : Program} {w : World} (h : Heap) (hb : sysModules < h.objs.size) : NdR P w h.objs.size [] (h.push { cls := .type "dict", data := .dict #[] }) :=
  ⟨Nat.zero_le _, beq_eq_false_iff_ne.mpr (Nat.ne_of_gt hb), [], .nil, List.nodup_nil, _, #[], 0, Heap.get?_push_size _ rfl, ⟨rfl, rfl, rfl⟩, rfl, rfl⟩
theorem pe_dnewN {pos : Pos} : PE X (.Dict [] [] pos) (tDNewN X.prog X.w) := by
  refine ⟨fun pins s σ H Q I q => ?_⟩
  refine wpAny_Dict_empty ⟨.ref s.heap.objs.size, _, I.laid (t' := s.toks) (fun _ _ e => Heap.get?_push_of_some _ e) (Nat.le_refl _) (ndO_ok (nd_empty s.heap I.big)), rfl, q _ (I.hok.fresh (Nat.le_refl _))⟩
end
end K02
set_option Elab.async false
set_option linter.all false
set_option maxRecDepth 100000
set_option maxHeartbeats 1000000
/-! ### sorted, of data -/
namespace K02
open PySem PySem.Spec PyProof.Rows L2 Evl
open PySem.W (EachIs)

/-! the list, also of one thing that is no better than () -/
section
open PySem.W PyProof.Rows
theorem sorts_one {prog : Program} {w : World} {A : Around} {s : Shared} {vs : List Value} {ds : List PyData} (e : EachIs (fun v d => ∃ as, Reads s.heap v d as) vs ds) (hal : AllAlike ds) (hl : ds.length ≤ 1) (hn : ∀ d ∈ ds, d ≠ .none) (hu : ∀ d, d ∈ ds → A.units + d.depth < cLine) : SortsAt prog w A s (dataKind s.heap ds) vs := by
  refine ⟨fun v hv => ?_, ?_⟩
  · obtain ⟨d, hd, as, r⟩ := e.left v hv
    exact ⟨_, dataKind_some hal hd r⟩
  · refine ⟨general', ?_, fun h2 => absurd h2 (by rw [e.length]; omega)⟩
    intro E x y a b Q ha hb hq
    obtain ⟨d, as, hd, ra, rfl⟩ := dataKind_inv ha
    obtain ⟨d', as', hd', rb, rfl⟩ := dataKind_inv hb
    show wpAny _ _ (oneLt' false x y) _ _ _
    exact oneLt_alike (fun z => nomatch z) ra rb (hal d hd d' hd') (hn d hd) (Nat.lt_of_le_of_lt (Nat.add_le_add_left (Nat.min_le_left _ _) _) (hu d hd)) hq
/-- what may be sorted here -/
structure SOk (ds : List PyData) : Prop where
  al : AllAlike ds
  ok : Sortable ds ∨ (ds.length ≤ 1 ∧ ∀ d ∈ ds, d ≠ .none)
  dp : ∀ d ∈ ds, d.depth ≤ 8
theorem SOk.at {ds : List PyData} (S : SOk ds) {prog : Program} {w : World} {A : Around} {s : Shared} {vs : List Value} (e : EachIs (fun v d => ∃ as, Reads s.heap v d as) vs ds) (hu : A.units + 8 < cLine) : SortsAt prog w A s (dataKind s.heap ds) vs := by
  have hu' : ∀ d, d ∈ ds → A.units + d.depth < cLine := fun d hd => by have := S.dp d hd; omega
  rcases S.ok with k | ⟨k1, k2⟩
  · exact SortsAt.data e S.al k hu'
  · exact sorts_one e S.al k1 k2 hu'
abbrev dSort (ds : List PyData) : List PyData := ds.mergeSort (dataLe false id)
theorem sorted_len (ds : List PyData) : (dSort ds).length = ds.length := List.length_mergeSort ds
theorem sortVals_at {h' : Heap} {R : Value → PyData → Prop} {vs : List Value} {ds : List PyData} (e : EachIs R vs ds) (er : EachIs (fun v d => ∃ as, Reads h' v d as) vs ds) (hal : AllAlike ds) : EachIs R (sortVals (dataKind h' ds) false vs vs) (dSort ds) := by
  have q := sortVals_data (h' := h') (enc := id) (bs := ds) false e er (by rw [List.map_id]; exact hal)
  rw [List.map_id] at q
  exact q
end
section
variable {X : Cx} {σ : L2.St} {ta : TA} {te : TE}
theorem dps_each {K : PySem.W.Frag} {H : Hp} : ∀ {vs : List V} {us : List Value} {ds : List PyData}, Vals vs us → DpAll K H vs ds → EachIs (fun u d => ∃ v, L2.RelV v u ∧ Dp K H v d) us ds
  | _, _, _, .nil, .nil => .nil
  | _, _, _, .cons r t, .cons h k => .cons ⟨_, r, h⟩ (dps_each t k)
theorem each_dps {K : PySem.W.Frag} {H : Hp} : ∀ {us : List Value} {ds : List PyData}, EachIs (fun u d => ∃ v, L2.RelV v u ∧ Dp K H v d) us ds → ∃ vs, Vals vs us ∧ DpAll K H vs ds
  | _, _, .nil => ⟨[], .nil, .nil⟩
  | _, _, .cons ⟨v, r, h⟩ t => by
    obtain ⟨vs, a, b⟩ := each_dps t
    exact ⟨v :: vs, .cons r a, .cons h b⟩
theorem each_reads {pins : List (Addr × Obj)} {H : Hp} {s : Shared} (I : L2.Inv X pins σ H s) : ∀ {us : List Value} {ds : List PyData}, EachIs (fun u d => ∃ v, L2.RelV v u ∧ Dp X.K H v d) us ds → EachIs (fun v d => ∃ as, Reads s.heap v d as) us ds
  | _, _, .nil => .nil
  | _, _, .cons ⟨v, r, h⟩ t => .cons (Dp.reads I _ v _ h r) (each_reads I t)
/-- sorted(xs) of a list -/
def rSortD (K : PySem.W.Frag) : List V → Hp → VK → Prop := fun vs H Q => ∃ (Hs : Hp) (a : Addr) (ds : List PyData), vs = [.ref a] ∧ Ex Hs H ∧ Dp K Hs (.ref a) (.list ds) ∧ SOk ds ∧ ∀ ys p, H p = none → DpAll K Hs ys (dSort ds) → Q (.ref p) (upd H p (.lst ys))
theorem cr_sortD (hu : X.A.units + 64 < cLine) : CallR X (.builtin "sorted") (rSortD X.K) := by
  intro pins s σ H vs us Q I r h
  obtain ⟨Hs, a, ds, rfl, eH, hd, S, q⟩ := h
  obtain ⟨a', xs, e1, hs, ht⟩ := dp_lst hd
  cases e1
  obtain ⟨its, rv, hl, hz⟩ := I.list (ex_l eH hs)
  rw [Vals.ref1 r]
  have hn := dps_len ht
  have hv := rv.length
  have er := each_reads I (dps_each rv (dps_ex eH ht))
  have er' : EachIs (fun v d => ∃ as, Reads (PySem.W.sortingHeap (PySem.W.copyHeap s.heap its) (s.heap.objs.size + 1) its) v d as) its ds := er.mono fun _ _ ⟨as, r⟩ => ⟨as, PyProof.Rows.Reads.keeps (fun _ _ => PySem.W.sorting_copy_old) r⟩
  refine PySem.W.sorted_vals hl.isList (S.at (s := { s with heap := PySem.W.sortingHeap (PySem.W.copyHeap s.heap its) (s.heap.objs.size + 1) its }) er' (by show X.A.units + 1 + 1 + 8 < cLine; omega)) (by omega) ?_
  obtain ⟨ys, y1, y2⟩ := each_dps (sortVals_at (h' := PySem.W.sortingHeap (PySem.W.copyHeap s.heap its) (s.heap.objs.size + 1) its) (dps_each rv ht) er' S.al)
  have ylen : ys.length ≤ sizeLine := by rw [dps_len y2, sorted_len]; omega
  obtain ⟨ep, he'⟩ := PyProof.Rows.sortedAll_at s.heap its (PySem.W.sortVals (PySem.W.dataKind (PySem.W.sortingHeap (PySem.W.copyHeap s.heap its) (s.heap.objs.size + 1) its) ds) false its its).toArray
  exact ⟨.ref _, upd H (s.heap.objs.size + 1) (.lst ys), I.laid (t' := s.toks) (fun _ _ => PyProof.Rows.sortedAll_old) (Nat.le_succ _) ⟨ylen, _, ep, y1, he'⟩, rfl, q ys _ (I.hok.fresh (Nat.le_succ _)) y2⟩
theorem evd_sorted {K : PySem.W.Frag} {H : Hp} {ds : List PyData} (ha : EvD K te σ H (.list ds)) (S : SOk ds) : EvD K (tCB (rSortD K) (tCons te tNil)) σ H (.list (dSort ds)) := fun Hs H1 a b Q q =>
  ha Hs H1 a b _ fun v Hs2 H2 f p => by
    obtain ⟨a, xs, rfl, hs, ht⟩ := dp_lst p
    exact ⟨Hs2, a, ds, rfl, f.c, .lst hs ht, S, fun ys l hl hy => q _ _ _ (f.trans (Fw.new f.c hl)) (.lst (sq_of upd_same) (dps_ex (Fw.new f.c hl).b hy))⟩
end
/-! a step on, everything new seen -/
def grow (Hs H H2 : Hp) : Hp := fun b => match H b with
  | some _ => Hs b
  | none => H2 b
theorem grow_new {Hs H H2 : Hp} {b : Addr} (h : H b = none) : grow Hs H H2 b = H2 b := by unfold grow; rw [h]
theorem grow_fw {Hs H H2 : Hp} (e : Ex Hs H) (f : Ex H H2) : Fw Hs H (grow Hs H H2) H2 where
  a := f
  b := fun b o q => by unfold grow; rw [e b o q]; exact q
  c := fun b o q => by
    unfold grow at q
    cases h : H b with
    | none => rw [h] at q; exact q
    | some u => rw [h] at q; exact f b o (e b o q)
  d := fun b o q n => by unfold grow; rw [q]; exact n
section
variable {X : Cx} {σ : L2.St} {ta : TA} {te : TE}
/-- the sort that sorted ends with: the list l of the values its, in h2; h1 the heap before l was made -/
theorem sort_at {pins : List (Addr × Obj)} {H Hs : Hp} {s : Shared} {h1 h2 : Heap} {l : Addr} {its : List Value} {xs : List V} {ds : List PyData} {tk : Nat} {A : Around} {Q : Shared → Prop} {E : Value → Shared → Prop} (I : L2.Inv X pins σ H { s with heap := h1, toks := tk }) (eH : Ex Hs H)
    (hl : h2.get? l = some (seqObj "list" its.toArray 0)) (k : ∀ b o, h1.get? b = some o → b ≠ l ∧ h2.get? b = some o) (hf : h1.objs.size ≤ l) (hn : H l = none) (rv : Vals xs its) (ht : DpAll X.K Hs xs ds) (S : SOk ds) (hz : ds.length ≤ sizeLine) (hu : A.units + 16 < cLine)
    (q : ∀ ys s', L2.Inv X pins σ (upd H l (.lst ys)) s' → DpAll X.K Hs ys (dSort ds) → Q s') : wpAny (model X.prog X.w) A (call (.builtin "list.sort") [.ref l]) (fun _ s' => Q s') E { s with heap := h2, toks := tk } := by
  have er := each_reads I (dps_each rv (dps_ex eH ht))
  have er' : EachIs (fun v d => ∃ as, Reads (PySem.W.sortingHeap h2 l its) v d as) its ds := er.mono fun _ _ ⟨as, r⟩ => ⟨as, PyProof.Rows.Reads.keeps (fun b o e => PySem.W.sortingHeap_old (k b o e).1 (k b o e).2) r⟩
  have hlen : its.length ≤ sizeLine := by rw [← rv.length, dps_len ht]; exact hz
  refine wpAny_call_entry PyProof.Rows.slot_list_sort ⟨_, hl, rfl⟩ PyProof.Rows.entry_list_sort (PySem.W.list_sort_vals (s := { s with heap := h2, toks := tk }) (P := fun f s' => ∃ v, f = .done (.ret v) ∧ Q s') hl (S.at (s := { s with heap := PySem.W.sortingHeap h2 l its, toks := tk }) er' (by show A.units + 1 + 8 < cLine; omega)) hlen ⟨.none, rfl, ?_⟩) (PyProof.Rows.args_list_sort _)
  obtain ⟨ys, y1, y2⟩ := each_dps (sortVals_at (h' := PySem.W.sortingHeap h2 l its) (dps_each rv ht) er' S.al)
  have ylen : ys.length ≤ sizeLine := by rw [dps_len y2, sorted_len]; exact hz
  obtain ⟨ep, he'⟩ := PyProof.Rows.sortedHeap_at (vs := its) (out := (PySem.W.sortVals (PySem.W.dataKind (PySem.W.sortingHeap h2 l its) ds) false its its).toArray) hl
  refine q ys _ ?_ y2
  exact I.laid (h' := sortedHeap h2 l its (PySem.W.sortVals (PySem.W.dataKind (PySem.W.sortingHeap h2 l its) ds) false its its).toArray) (t' := tk) (fun b o e => (PyProof.Rows.sortedHeap_old (k b o e).1 (Heap.lt_size (k b o e).2)).trans (k b o e).2) hf ⟨ylen, _, ep, y1, he'⟩
/-- sorted(d), d a dict with tuple keys -/
def rSortN (K : PySem.W.Frag) (P : Program) (w : World) : List V → Hp → VK → Prop := fun vs H Q => ∃ (Hs : Hp) (a : Addr) (xs : NX), vs = [.ref a] ∧ Ex Hs H ∧ Rd H a (NdO P w a xs) ∧ NdK K Hs xs ∧ SOk (xs.map fun x => x.1.data) ∧
  ∀ ys p, H p = none → DpAll K Hs ys (dSort (xs.map fun x => x.1.data)) → Q (.ref p) (upd H p (.lst ys))
theorem nd_keys {K : PySem.W.Frag} {H : Hp} : ∀ {xs : NX}, NdK K H xs → DpAll K H (xs.map fun x => V.ref x.2.1) (xs.map fun x => x.1.data)
  | [], _ => .nil
  | x :: xs, h => .cons (h x List.mem_cons_self).1 (nd_keys fun y hy => h y (List.mem_cons_of_mem _ hy))
theorem nd_vals {xs : NX} {ys : List (NestedKey × Addr × Value)} (p : NPr xs ys) : Vals (xs.map fun x => V.ref x.2.1) (ys.map fun y => Value.ref y.2.1) := by
  induction p with
  | nil => exact .nil
  | cons r t ih => exact .cons (congrArg Value.ref r.2.1.symm) ih
theorem cr_sortN (hc : X.calm = true) (hu : X.A.units + 64 < cLine) : CallR X (.builtin "sorted") (rSortN X.K X.prog X.w) := by
  intro pins s σ H vs us Q I r h
  obtain ⟨Hs, a, xs, rfl, eH, hd, hk, S, q⟩ := h
  obtain rfl := Vals.ref1 r
  obtain ⟨ys, p, ⟨o, es, ep, ho, hx, hdt, hes, _, _⟩, z, m⟩ := nd_dict I hd (hk.ex eH)
  have hy : ys.length = xs.length := (Paired.length p).symm
  have hes' : es.size = ys.length := by rw [← Array.length_toList, hes, List.length_map]
  refine Calls.call_function_entry PyProof.Rows.kind_sorted PyProof.Rows.plain_sorted PyProof.Rows.entry_sorted (PyProof.Rows.args_sorted1 _) ?_
  unfold Builtin.«sorted»
  refine wpAny_bind (m := checkCount "sorted" 1 1 _) (wpAny_pure ?_)
  refine wpAny_bind (PySem.W.kdu_collect (A := X.A.in1) (kdl_raw m hx hdt) (I.ok.hd hc) ho (by rw [hes', hy]; exact z) fun h' tk acc hk' hacc => ?_)
  have ea : acc.toList = ys.map fun y => Value.ref y.2.1 := by
    refine List.ext_getElem? fun j => ?_
    by_cases hj : j < acc.size
    · obtain ⟨en, e1, e2⟩ := hacc.2 j acc[j] (Array.getElem?_eq_getElem hj)
      rw [Array.getElem?_toList, Array.getElem?_eq_getElem hj, e2]
      rw [← Array.getElem?_toList, hes, List.getElem?_map] at e1
      rw [List.getElem?_map]
      cases g : ys[j]? with
      | none => rw [g] at e1; cases e1
      | some y => rw [g] at e1; cases e1; rfl
    · have l1 : acc.size = es.size := hacc.1
      rw [List.getElem?_eq_none (by rw [Array.length_toList]; omega), List.getElem?_eq_none (by rw [List.length_map]; omega)]
  have I1 : L2.Inv X pins σ H { s with heap := h', toks := tk } := I.kept hk'
  refine wpAny_bind (wpAny_newList ?_ (by rw [ea, List.length_map, hy]; exact z))
  refine wpAny_bind (wpAny_holding (wpAny_mono (sort_at (Q := fun s' => EP X pins σ Q (.ref h'.objs.size) s') (l := h'.objs.size) (h2 := h'.push { cls := .type "list", data := .seq acc.toList.toArray }) I1 eH (Heap.get?_push_size _ rfl) (fun b o e => ⟨Nat.ne_of_lt (Heap.lt_size e), Heap.get?_push_of_some _ e⟩) (Nat.le_refl _) (I1.hok.fresh (Nat.le_refl _))
    (by rw [ea]; exact nd_vals p) (nd_keys hk) S (by rw [List.length_map]; exact z) (by show X.A.units + 1 + 16 < cLine; omega) fun ys' s' I2 hy' => ⟨.ref h'.objs.size, _, I2, rfl, q ys' _ (I1.hok.fresh (Nat.le_refl _)) hy'⟩) (fun _ s' x => ?_) fun _ _ e => e))
  exact wpAny_pure ⟨_, rfl, x⟩
/-! sorted(d.items()), d a dict from ints -/
/-- the entries -/
def EntD (K : PySem.W.Frag) (H : Hp) : List (Key × V) → List (Int × PyData) → Prop := Paired fun kv e => kv.1 = .inl e.1 ∧ Dp K H kv.2 e.2
def entT (e : Int × PyData) : PyData := .tuple [.int e.1, e.2]
def rItemsK : V → List V → Hp → VK → Prop := fun x xs H Q => ∃ (a : Addr) (kvs : List (Key × V)), x = .ref a ∧ xs = [] ∧ H a = some (.dK kvs) ∧ ∀ p, H p = none → Q (.ref p) (upd H p (L2.DX.itemsO p a))
theorem mt_itemsK : MtR X "dict.items" rItemsK := by
  intro pins s σ H x xs v us Q I rx rxs h
  obtain ⟨a, kvs, rfl, rfl, ha, q⟩ := h
  cases rx
  cases rxs
  obtain ⟨z, hd, vs, rel, o, es, ep, ho, hx, hdat, _⟩ := dk_of I.hok ha
  refine DT.callItems (es := es) (ep := ep) hd ⟨o, ho, hx, hdat⟩ ?_
  have hf : H s.heap.objs.size = none := I.hok.fresh (Nat.le_refl _)
  exact ⟨.ref s.heap.objs.size, upd H s.heap.objs.size (L2.DX.itemsO s.heap.objs.size a), I.laid (t' := s.toks) (fun b u e => Heap.get?_push_of_some _ e) (Nat.le_refl _) (L2.DX.itemsO_ok (Heap.get?_push_size _ rfl)), rfl, q _ hf⟩
/-- sorted(d.items()) -/
def rSortIK (K : PySem.W.Frag) : List V → Hp → VK → Prop := fun vs H Q => ∃ (Hs : Hp) (p a : Addr) (kvs : List (Key × V)) (ents : List (Int × PyData)), vs = [.ref p] ∧ H p = some (L2.DX.itemsO p a) ∧ H a = some (.dK kvs) ∧ Ex Hs H ∧ EntD K Hs kvs ents ∧ SOk (ents.map entT) ∧
  ∀ Hs2 H2 ys l, Fw Hs H Hs2 H2 → Hs2 l = some (.lst ys) → DpAll K Hs2 ys (dSort (ents.map entT)) → Q (.ref l) H2
theorem ents_at {P : Program} {w : World} {K : PySem.W.Frag} {H : Hp} {es : List DictEntry} {vs : List (Key × Value)} {kvs : List (Key × V)} {ents : List (Int × PyData)} (h1 : Pairs (mixKind P w) es vs) (h2 : KV kvs vs) (h3 : EntD K H kvs ents) : ∀ (j : Nat) (e : DictEntry), es[j]? = some e → ∃ (n : Int) (d : PyData) (v : V), ents[j]? = some (n, d) ∧ L2.RelV (.int n) e.key ∧ L2.RelV v e.val ∧ Dp K H v d := by
  induction h1 generalizing kvs ents with
  | nil => intro j e q; simp at q
  | @cons e0 kv es vs g1 g2 t ih =>
    cases h2 with
    | @cons kv' _ l _ r1 r2 =>
      cases h3 with
      | @cons _ en _ ens s1 s2 =>
        intro j e q
        cases j with
        | zero =>
          simp at q
          subst q
          refine ⟨en.1, en.2, kv'.2, rfl, ?_, by rw [g2]; exact r1.2, s1.2⟩
          have := relV_key (show keyIs kv.1 e0.key = true from g1)
          rw [← r1.1, s1.1] at this
          exact this
        | succ j =>
          obtain ⟨n, d, v, a1, a2⟩ := ih r2 s2 j e (by simpa using q)
          exact ⟨n, d, v, by simpa using a1, a2⟩
theorem cr_sortIK (hc : X.calm = true) (hu : X.A.units + 64 < cLine) : CallR X (.builtin "sorted") (rSortIK X.K) := by
  intro pins s σ H xs us Q I r h
  obtain ⟨Hs, p, a, kvs, ents, rfl, hp, ha, eH, hE, S, q⟩ := h
  obtain rfl := Vals.ref1 r
  have view : s.heap.IsItemsView p a := (show ObjOk X.prog X.w H s.heap p (L2.DX.itemsO p a) from I.hok p _ hp).1
  obtain ⟨z, hd, vs, rel, o, es, ep, ho, hx, hdat, hko, hpr, hnd⟩ := dk_of I.hok ha
  have l0 : kvs.length = ents.length := Paired.length hE
  have l1 : kvs.length = vs.length := Paired.length rel
  have l2 : es.size = vs.length := by rw [← Array.length_toList]; exact hpr.length
  refine DT.sortedI (es := es) (ep := ep) (I.ok.hd hc) view ⟨o, ho, hx, hdat⟩ (by omega) fun h' tk as hk hlt hl hG => ?_
  have lak : as.length = ents.length := by omega
  have nd : as.Nodup := List.Pairwise.imp (fun h => Nat.ne_of_lt h) hG.rise
  have I1 : L2.Inv X pins σ H { s with heap := h', toks := tk } := I.kept (t' := tk) hk
  have pr : ∀ (j : Nat) (b : Addr), as[j]? = some b → ∃ (n : Int) (d : PyData) (v : V) (k u : Value), ents[j]? = some (n, d) ∧ L2.RelV (.int n) k ∧ L2.RelV v u ∧ Dp X.K Hs v d ∧ h'.get? b = some { cls := .type "tuple", data := .seq #[k, u] } := by
    intro j b hj
    obtain ⟨e, he, hg⟩ := hG.pairs j b hj
    obtain ⟨n, d, v, e1, e2, e3, e4⟩ := ents_at hpr rel hE j e (by rw [Array.getElem?_toList]; exact he)
    exact ⟨n, d, v, _, _, e1, e2, e3, e4, hg⟩
  obtain ⟨H2, I2, g, qt⟩ := L2.DX.takeT (P := fun b ws => ∃ (j : Nat) (n : Int) (d : PyData) (v : V), as[j]? = some b ∧ ents[j]? = some (n, d) ∧ ws = [.int n, v] ∧ Dp X.K Hs v d) I as H I1 nd fun b hb => by
    obtain ⟨j, hj⟩ := List.mem_iff_getElem?.mp hb
    obtain ⟨n, d, v, k, u, e1, e2, e3, e4, hg⟩ := pr j b hj
    have hbl : s.heap.objs.size ≤ b := Nat.le_of_lt (hG.above b hb)
    exact ⟨hbl, I.hok.fresh hbl, [.int n, v], ⟨j, n, d, v, hj, e1, rfl, e4⟩, fun H3 => ⟨(by rw [sizeLine_eq]; show 2 ≤ 16777216; omega), [k, u], .cons e2 (.cons e3 .nil), ⟨_, hg, rfl, 0, rfl⟩⟩⟩
  have fw : Fw Hs H (grow Hs H H2) H2 := grow_fw eH g
  have dall : DpAll X.K (grow Hs H H2) (as.map V.ref) (ents.map entT) := by
    have key : ∀ (bs : List Addr) (es' : List (Int × PyData)) (i : Nat), bs = as.drop i → es' = ents.drop i → DpAll X.K (grow Hs H H2) (bs.map V.ref) (es'.map entT) := by
      intro bs
      induction bs with
      | nil =>
        intro es' i h1 h2
        have hle : as.length ≤ i := by
          have := congrArg List.length h1
          rw [List.length_drop] at this
          simp at this
          omega
        rw [h2, List.drop_eq_nil_of_le (by omega)]
        exact .nil
      | cons b bs ih =>
        intro es' i h1 h2
        have hj : as[i]? = some b := by
          have : (as.drop i)[0]? = some b := by rw [← h1]; rfl
          rw [List.getElem?_drop] at this
          simpa using this
        have hb := List.mem_of_getElem? hj
        obtain ⟨ws, ⟨j, n, d, v, j1, j2, rfl, hdp⟩, hH⟩ := qt b hb
        have eij : i = j := (List.getElem?_inj (List.getElem?_eq_some_iff.mp hj).1 nd).mp (hj.trans j1.symm)
        subst eij
        have hes : es' = (n, d) :: ents.drop (i + 1) := by
          rw [h2]
          exact (List.drop_eq_getElem_cons (List.getElem?_eq_some_iff.mp j2).1).trans (by rw [(List.getElem?_eq_some_iff.mp j2).2])
        rw [hes]
        have nb : H b = none := I.hok.fresh (Nat.le_of_lt (hG.above b hb))
        refine .cons (.tup (st_of (by rw [grow_new nb]; exact hH)) (.cons (.int n) (.cons (dp_ex fw.b hdp) .nil))) (ih _ (i + 1) ?_ rfl)
        have := congrArg List.tail h1
        rw [List.tail_drop] at this
        exact this
    exact key as ents 0 rfl rfl
  refine sort_at (Q := fun s' => EP X pins σ Q (.ref h'.objs.size) s') (l := h'.objs.size) (h2 := h'.push { cls := .type "list", data := .seq (as.map Value.ref).toArray }) I2 fw.c (Heap.get?_push_size _ rfl) (fun b o e => ⟨Nat.ne_of_lt (Heap.lt_size e), Heap.get?_push_of_some _ e⟩) (Nat.le_refl _) (I2.hok.fresh (Nat.le_refl _))
    (LiI.vals_refs as) dall S (by rw [List.length_map]; omega) (by show X.A.units + 1 + 16 < cLine; omega) fun ys' s' I3 hy' => ⟨.ref h'.objs.size, _, I3, rfl, ?_⟩
  have nl : H2 h'.objs.size = none := I2.hok.fresh (Nat.le_refl _)
  have fw2 := fw.trans (Fw.new (o := .lst ys') fw.c nl)
  exact q _ _ ys' h'.objs.size fw2 upd_same (dps_ex (Fw.new (o := .lst ys') fw.c nl).b hy')
end
end K02
set_option Elab.async false
set_option linter.all false
set_option maxRecDepth 100000
set_option maxHeartbeats 1000000
/-! ### comprehensions of dicts whose keys are tuples -/
namespace K02
open PySem PySem.Spec PyProof.Rows L2 Evl

/-- what a put asks and leaves -/
abbrev PutP := Addr → V → V → Hp → (Hp → Prop) → Prop
structure PutOk (X : Cx) (P : PutP) : Prop where
  run : ∀ {pins : List (Addr × Obj)} {σ : L2.St} {H : Hp} {s : Shared} {D : Addr} {y z : V} {u r : Value} {N : Hp → Prop} {Q : Unit → Shared → Prop} {E : Value → Shared → Prop},
  L2.Inv X pins σ H s → L2.RelV y u → L2.RelV z r → P D y z H N → (∀ s' H', L2.Inv X pins σ H' s' → N H' → Q () s') → wpAny (model X.prog X.w) X.A (dictSet D u r) Q E s
/-- the turns' end: the dict is D -/
def tDg (O0 : Addr → HO) (P : PutP) (wi : TI) (g : TG) (tt : TT) (tk tv : TE) (vs : List Nat) : TE := fun σ H Q =>
  wi σ H fun J H1 => ∀ D, H1 D = none → ∃ W : Nat → Nat → Hp → Prop, (∃ m, W 0 m (upd H1 D (O0 D))) ∧ ∀ i m H, W i m H →
    (J.stop i H ∧ Q (.ref D) H) ∨ (J.go i H ∧ ∃ Nx : Hp → Prop, (∀ H', Nx H' → ∃ m', m' < m ∧ W (i + 1) m' H') ∧ ∀ x H', J.yld i H x H' → g x (wipe σ vs) H' fun σ2 H2 => wipe σ2 vs = wipe σ vs ∧
      tt σ2 H2 fun b H3 => if b = true then tk σ2 H3 fun y H4 => tv σ2 H4 fun z H5 => P D y z H5 Nx else Nx H3)
section
variable {X : Cx}
theorem pe_dg {O0 : Addr → HO} {P : PutP} {kx vx tg iter : Expr} {ifs : List Expr} {scope : Scope} {own : List (Str × Nat)} {pos : Pos} {wi : TI} {g : TG} {tt : TT} {tk tv : TE} (hc : X.calm = true) (hN : X.N.Nodup) (hi : PI X tg iter wi) (ok : BlkOk X.N X.env.scope scope own)
    (h0 : ∀ (h : Heap) (H : Hp), sysModules < h.objs.size → ObjOk X.prog X.w H (h.push { cls := .type "dict", data := .dict #[] }) h.objs.size (O0 h.objs.size))
    (hP : ∀ (s : Shared) (H : Hp) (ce : Env) (fp : List Addr), PutOk (X.blk s H scope ce fp) P)
    (hg : ∀ (s : Shared) (H : Hp) (C : Addr) (cl : List (Str × Addr)) (fp : List Addr), PG (X.blk s H scope (compEnvC scope cl C X.env) fp) tg g)
    (ht : ∀ (s : Shared) (H : Hp) (C : Addr) (cl : List (Str × Addr)) (fp : List Addr), PTs (X.blk s H scope (compEnvC scope cl C X.env) fp) ifs tt)
    (hk : ∀ (s : Shared) (H : Hp) (C : Addr) (cl : List (Str × Addr)) (fp : List Addr), PE (X.blk s H scope (compEnvC scope cl C X.env) fp) kx tk)
    (he : ∀ (s : Shared) (H : Hp) (C : Addr) (cl : List (Str × Addr)) (fp : List Addr), PE (X.blk s H scope (compEnvC scope cl C X.env) fp) vx tv)
    (hs : ∀ x, foldedSetIterable iter X.env x = pure x := by intro _; rfl) :
    PE X (.DictComp kx vx [⟨tg, iter, ifs, 0⟩] scope pos) (tDg O0 P wi g tt tk tv (own.map (·.2))) := by
  constructor
  intro pins s0 σ H0 Q I0 h
  rw [arm_eval_DictComp]
  have closed : ∀ y ∈ scope.names, y.2 = .free → ∃ c, X.env.cells.lookup y.1 = some c := fun y hy e => (ok.free y hy e).elim (fun k => I0.ok.has _ (.inl k)) fun k => I0.ok.has _ (.inr k)
  refine wpAny_comprehension_free (use := none) rfl hs (closure_ok closed) ok.kind (fun y hy e => by rw [ok.uniq y hy, e]) ?_
  refine thn (hi.run pins s0 σ H0 _ I0 h) fun xv s1 hx => thn hx fun itv s2 h2 => ?_
  obtain ⟨it, fp, tn, J, H2, rfl, I2, T, st2, f2, q⟩ := h2
  -- the dict, the block
  refine wpAny_newObj_type (newEnv_comp ?_)
  have fresh : H2 s2.heap.objs.size = none := I2.hok.fresh (Nat.le_refl _)
  obtain ⟨W, ⟨m0, w0⟩, turn⟩ := q s2.heap.objs.size fresh
  obtain ⟨D, hD⟩ : ∃ D, D = s2.heap.objs.size := ⟨_, rfl⟩
  obtain ⟨s3, hs3⟩ : ∃ s3 : Shared, s3 = { s2 with heap := s2.heap.push { cls := .type "dict", data := .dict #[] } } := ⟨_, rfl⟩
  obtain ⟨H3, hH3⟩ : ∃ H3 : Hp, H3 = upd H2 D (O0 D) := ⟨_, rfl⟩
  rw [← hD] at fresh w0 turn
  rw [← hH3] at w0
  have I3 : L2.Inv X pins σ H3 s3 := by
    rw [hs3, hH3]
    refine I2.laid (t' := s2.toks) (fun b o e => Heap.get?_push_of_some _ e) (Nat.le_of_eq hD.symm) ?_
    rw [hD]
    exact h0 s2.heap _ I2.big
  have old : ∀ b o, s2.heap.get? b = some o → s3.heap.get? b = some o := fun b o e => by rw [hs3]; exact Heap.get?_push_of_some _ e
  have low : ∀ b ∈ fp, b < s2.heap.objs.size := fun b hb => (T.obj _ _ st2 b hb).elim fun o e => Heap.lt_size e.1
  have z3 : s3.heap.objs.size = s2.heap.objs.size + 1 := by rw [hs3]; exact Heap.size_push _ _
  have f3 : ∀ b ∈ fp, FpOk X pins H3 b ∧ b < s3.heap.objs.size := fun b hb => by
    have h1 := low b hb
    refine ⟨⟨?_, (f2 b hb).2⟩, by rw [z3]; exact Nat.lt_succ_of_lt h1⟩
    rw [hH3, upd_ne (by rw [hD]; exact Nat.ne_of_lt h1)]
    exact (f2 b hb).1
  have st3 : tn 0 s3.heap := T.keep _ _ _ st2 fun b _ o e => old b o e
  have I4 := block_start I3 ok hN f3
  show codeAny _ _ (.compStart (.DictComp kx vx [⟨tg, iter, ifs, 0⟩] scope pos) 0 (.ref it) (.ref s2.heap.objs.size) (compEnvC scope (cellsFrom ((s2.heap.push { cls := .type "dict", data := .dict #[] }).objs.size + 1) scope.names (cloFrom X.env.cells scope.names [])) (s2.heap.push { cls := .type "dict", data := .dict #[] }).objs.size X.env))
    (compPost (model X.prog X.w) X.A X.xe none (EP X pins σ Q) (.ref s2.heap.objs.size) (s2.heap.push { cls := .type "dict", data := .dict #[] }).objs.size) { s2 with heap := pushCells ((s2.heap.push { cls := .type "dict", data := .dict #[] }).push { cls := .type "dict", data := .dict #[] }) scope.names }
  have heap3 : s2.heap.push { cls := .type "dict", data := .dict #[] } = s3.heap := by rw [hs3]
  have sh4 : ({ s2 with heap := pushCells (s3.heap.push { cls := .type "dict", data := .dict #[] }) scope.names } : Shared) = { s3 with heap := pushCells (s3.heap.push { cls := .type "dict", data := .dict #[] }) scope.names } := by rw [hs3]
  rw [heap3, sh4, ← hD]
  obtain ⟨ce, hce⟩ : ∃ ce, ce = compEnvC scope (cellsFrom (s3.heap.objs.size + 1) scope.names (cloFrom X.env.cells scope.names [])) s3.heap.objs.size X.env := ⟨_, rfl⟩
  have pg := hg s3 H3 s3.heap.objs.size (cellsFrom (s3.heap.objs.size + 1) scope.names (cloFrom X.env.cells scope.names [])) fp
  have pt := ht s3 H3 s3.heap.objs.size (cellsFrom (s3.heap.objs.size + 1) scope.names (cloFrom X.env.cells scope.names [])) fp
  have pk := hk s3 H3 s3.heap.objs.size (cellsFrom (s3.heap.objs.size + 1) scope.names (cloFrom X.env.cells scope.names [])) fp
  have pv := he s3 H3 s3.heap.objs.size (cellsFrom (s3.heap.objs.size + 1) scope.names (cloFrom X.env.cells scope.names [])) fp
  have pp := hP s3 H3 ce fp
  have cL : ce.locals = s3.heap.objs.size := by rw [hce]; rfl
  rw [← hce] at I4 pg pt pk pv ⊢
  obtain ⟨s4, hs4⟩ : ∃ s4 : Shared, s4 = { s3 with heap := pushCells (s3.heap.push { cls := .type "dict", data := .dict #[] }) scope.names } := ⟨_, rfl⟩
  have st4 : tn 0 s4.heap := T.keep _ _ _ st3 fun b _ o e => by rw [hs4]; exact pushCells_keeps _ _ _ _ (Heap.get?_push_of_some _ e)
  rw [← hs4] at I4 ⊢
  -- where the walk stands, within the block
  have seen : ∀ {σ' : L2.St} {H' : Hp} {s' : Shared}, L2.Inv (X.blk s3 H3 scope ce fp) [] σ' H' s' → (∀ b ∈ fp, H' b = none) → ∀ b ∈ fp, FpOk (X.blk s3 H3 scope ce fp) [] H' b := fun {σ' H' s'} I' hn b hb =>
    ⟨hn b hb, (I'.ok.exf b hb).1, I'.ok.exfs b hb, .inl hb, fun x c e => (I'.ok.exf b hb).2 x c e, fun p hp => absurd (show p ∈ ([] : List (Addr × Obj)) ++ [] from hp) (by simp)⟩
  have loop : codeAny (model X.prog X.w) X.A (.compLoop (.DictComp kx vx [⟨tg, iter, ifs, 0⟩] scope pos) 0 (.ref it) (.ref D) ce) (compPost (model X.prog X.w) X.A X.xe none (EP X pins σ Q) (.ref D) s3.heap.objs.size) s4 := by
    refine compLoop_anyD (fun n s' => ∃ i H', L2.Inv (X.blk s3 H3 scope ce fp) [] (wipe σ (own.map (·.2))) H' s' ∧ tn i s'.heap ∧ (∀ b ∈ fp, H' b = none) ∧ W i n H') (fun n s5 hI => ?_) m0 ⟨0, H3, I4, st4, fun b hb => (f3 b hb).1.1, w0⟩
    obtain ⟨i, H5, I5, st5, n5, w5⟩ := hI
    rcases turn i n H5 w5 with ⟨stop, qq⟩ | ⟨go, Nx, hNx, step⟩
    · refine thnF (T.done (X.blk s3 H3 scope ce fp) rfl rfl rfl hc i [] s5 _ H5 (fun _ _ => False) I5 (seen I5 n5) st5 stop) fun r s6 ⟨hr, I6⟩ => ?_
      subst hr
      have I7 : L2.Inv X pins σ H5 s6 := I3.call' (ch := fp) I6.os I6.base I6.hok I6.bare fun b hb => ⟨(f3 b hb).1.2.2.2.1, (f3 b hb).1.2.1, (f3 b hb).1.2.2.2.2.1, (f3 b hb).1.2.2.2.2.2⟩
      have nC : H5 s3.heap.objs.size = none := by rw [← cL]; exact I6.free
      obtain ⟨m, hn, _⟩ := I6.loc
      obtain ⟨g0, g1, g2, g3, g4, g5⟩ := I3.fpOk (Nat.le_refl _) nC
      exact ⟨m, cL ▸ (show s6.heap.Ns ce.locals m from hn), fun h'' sb => ⟨.ref D, H5, I7.turned (t' := s6.toks) (fun b o hb e => (sb.2 b hb).trans e) g0 g1 g3 g4 g5, rfl, qq⟩⟩
    · refine thnF (T.item (X.blk s3 H3 scope ce fp) rfl rfl rfl hc i [] s5 _ H5 (fun _ _ => False) I5 (seen I5 n5) st5 go) fun r s6 ⟨u, hr, h6⟩ => ?_
      subst hr
      refine thnF h6 fun _ s7 ⟨x, H7, I7, r7, y7, st7, n7⟩ => ?_
      refine thnF (pg.run _ s7 _ H7 x u _ (I7.pinned (seen I7 n7) (T.obj _ _ st7)) r7 (step x H7 y7)) fun _ s8 ⟨σ8, H8, I8, hw8, q8⟩ => ?_
      have fin : ∀ {s' : Shared} {H' : Hp}, L2.Inv (X.blk s3 H3 scope ce fp) ([] ++ pinsAt fp s7.heap) σ8 H' s' → Nx H' → ∃ m, m < n ∧ ∃ i H', L2.Inv (X.blk s3 H3 scope ce fp) [] (wipe σ (own.map (·.2))) H' s' ∧ tn i s'.heap ∧ (∀ b ∈ fp, H' b = none) ∧ W i m H' := fun {s' H'} I' nx => by
        obtain ⟨m', hm, w'⟩ := hNx H' nx
        have pin' : ∀ b ∈ fp, ∀ o, s7.heap.get? b = some o → s'.heap.get? b = some o ∧ H' b = none := fun b hb o e => by
          have z := I'.pin (b, o) (List.mem_append_right _ (List.mem_append_right _ (mem_pinsAt hb e)))
          exact ⟨z.1, z.2.1⟩
        refine ⟨m', hm, i + 1, H', (I'.unpinned (pins := [])).weak (by rw [← hw8, wipe_length]) (fun j v e => ?_), T.keep _ _ _ st7 fun b hb o e => (pin' b hb o e).1, fun b hb => ?_, w'⟩
        · rw [← hw8] at e
          exact (wipe_some e).1
        · exact (T.obj _ _ st7 b hb).elim fun o e => (pin' b hb o e.1).2
      refine thnF (pt.run _ s8 σ8 H8 _ I8 q8) fun b s9 ⟨H9, I9, q9⟩ => ?_
      cases b with
      | false =>
        rw [if_neg (by decide)] at q9 ⊢
        exact fin I9 q9
      | true =>
        rw [if_pos rfl] at q9 ⊢
        refine thnF (pk.run _ s9 σ8 H9 _ I9 q9) fun y' s10 ⟨yk, H10, I10, r10, q10⟩ => ?_
        refine thnF (pv.run _ s10 σ8 H10 _ I10 q10) fun z' s11 ⟨yv, H11, I11, r11, q11⟩ => ?_
        exact pp.run I11 r10 r11 q11 fun s12 H12 I12 nx => fin I12 nx
  exact codeAny_compStart_dict loop (T.self X.A 0 _ _ _ st4 loop)
/-- the dicts with tuple keys -/
def PutN (K : PySem.W.Frag) (P : Program) (w : World) : PutP := fun D y z H N => ∃ xs k b, y = .ref b ∧ H D = some (NdO P w D xs) ∧ NdK K H xs ∧ Dp K H (.ref b) k.data ∧ k.depth ≤ 8 ∧ xs.length < sizeLine ∧ N (upd H D (NdO P w D (ndPut xs k b z)))
theorem putN_ok (hu : X.A.units + 64 < cLine) : PutOk X (PutN X.K X.prog X.w) := by
  refine ⟨fun {pins σ H s D y z u r N Q E} I ry rz h k => ?_⟩
  obtain ⟨xs, kk, b, rfl, hD, hk, h1, h2, hz, n⟩ := h
  obtain rfl : u = Value.ref b := ry
  obtain ⟨ys, p, dd, z0, m⟩ := nd_dict I (.inl hD) hk
  have hl := ndPut_len xs kk b z
  refine wpAny_dictSet_heap (hsz := by rw [← Paired.length p]; exact z0) (by show X.A.units + 8 < cLine; omega) (nd_key I h1 h2) dd fun h' dd' sb => ?_
  exact k _ _ (nd_write I hD m dd' (ndPut_rel p kk b rz) (by omega) sb) n
end
end K02
set_option Elab.async false
set_option linter.all false
set_option maxRecDepth 100000
set_option maxHeartbeats 1000000
/-! ### {k: True for ..}, sorted, as data -/
namespace K02
open PySem PySem.Spec PyProof.Rows L2 Evl

/-! each thing once, where it came first -/
section
variable {β γ : Type} [DecidableEq β] [DecidableEq γ]
def ddOn (acc : List β) (b : β) : List β := if b ∈ acc then acc else acc ++ [b]
def dd (bs : List β) : List β := bs.foldl ddOn []
theorem dd_snoc (bs : List β) (b : β) : dd (bs ++ [b]) = ddOn (dd bs) b := by
  unfold dd
  rw [List.foldl_append]
  rfl
theorem ddOn_mem (acc : List β) (b x : β) : x ∈ ddOn acc b ↔ x ∈ acc ∨ x = b := by
  unfold ddOn
  split
  · next h => exact ⟨Or.inl, fun k => k.elim id fun e => e ▸ h⟩
  · rw [List.mem_append, List.mem_singleton]
theorem ddOn_nodup {acc : List β} {b : β} (h : acc.Nodup) : (ddOn acc b).Nodup := by
  unfold ddOn
  split
  · exact h
  · next n =>
    rw [List.nodup_append]
    exact ⟨h, by simp, fun x hx y hy e => n (by rw [List.mem_singleton] at hy; rw [← hy, ← e]; exact hx)⟩
theorem foldl_mem (x : β) : ∀ (bs acc : List β), x ∈ bs.foldl ddOn acc ↔ x ∈ acc ∨ x ∈ bs
  | [], acc => by simp
  | b :: bs, acc => by
    rw [List.foldl_cons, foldl_mem x bs, ddOn_mem, List.mem_cons, or_assoc]
theorem foldl_nodup : ∀ (bs acc : List β), acc.Nodup → (bs.foldl ddOn acc).Nodup
  | [], acc, h => h
  | b :: bs, acc, h => foldl_nodup bs _ (ddOn_nodup h)
theorem dd_mem (bs : List β) (x : β) : x ∈ dd bs ↔ x ∈ bs := by
  unfold dd
  rw [foldl_mem]
  simp
theorem dd_nodup (bs : List β) : (dd bs).Nodup := foldl_nodup bs [] List.nodup_nil
theorem dd_len (bs : List β) : (dd bs).length ≤ bs.length := by
  have : ∀ (bs acc : List β), (bs.foldl ddOn acc).length ≤ acc.length + bs.length := by
    intro bs
    induction bs with
    | nil => intro acc; simp
    | cons b bs ih =>
      intro acc
      rw [List.foldl_cons]
      refine Nat.le_trans (ih _) ?_
      have : (ddOn acc b).length ≤ acc.length + 1 := by
        unfold ddOn
        split
        · omega
        · simp
      rw [List.length_cons]
      omega
  have h := this bs []
  simpa [dd] using h
theorem ddOn_map {f : β → γ} (hf : ∀ x y, f x = f y → x = y) (acc : List β) (b : β) : (ddOn acc b).map f = ddOn (acc.map f) (f b) := by
  unfold ddOn
  by_cases h : b ∈ acc
  · rw [if_pos h, if_pos (List.mem_map.mpr ⟨b, h, rfl⟩)]
  · rw [if_neg h, if_neg (fun z => by
      obtain ⟨c, hc, e⟩ := List.mem_map.mp z
      exact h (hf _ _ e ▸ hc)), List.map_append]
    rfl
end
theorem ndPut_keys (xs : NX) (k : NestedKey) (b : Addr) (v : V) : (ndPut xs k b v).map (·.1) = ddOn (xs.map (·.1)) k := by
  have e : (ndLook xs k).isSome = true ↔ k ∈ xs.map (·.1) := by
    unfold ndLook
    rw [Option.isSome_map, List.find?_isSome, List.mem_map]
    exact ⟨fun ⟨x, hx, q⟩ => ⟨x, hx, by simpa using q⟩, fun ⟨x, hx, q⟩ => ⟨x, hx, by simpa using q⟩⟩
  unfold ndPut ddOn
  by_cases h : (ndLook xs k).isSome = true
  · rw [if_pos h, if_pos (e.mp h), List.map_map]
    refine List.map_congr_left fun x _ => ?_
    show (if x.1 = k then (x.1, x.2.1, v) else x).1 = x.1
    split <;> rfl
  · rw [if_neg h, if_neg (fun z => h (e.mpr z)), List.map_append]
    rfl
/-- a dict whose keys are told by ks -/
def NdAt (K : PySem.W.Frag) (P : Program) (w : World) (ks : List NestedKey) (v : V) (H : Hp) : Prop := ∃ a xs, v = .ref a ∧ H a = some (NdO P w a xs) ∧ NdK K H xs ∧ xs.map (·.1) = ks
theorem NdAt.ex {K : PySem.W.Frag} {P : Program} {w : World} {ks : List NestedKey} {v : V} {H H' : Hp} (e : Ex H H') (h : NdAt K P w ks v H) : NdAt K P w ks v H' := by
  obtain ⟨a, xs, h1, h2, h3, h4⟩ := h
  exact ⟨a, xs, h1, e _ _ h2, h3.ex e, h4⟩
section
variable {K : PySem.W.Frag} {P : Program} {w : World} {σ : L2.St} {H : Hp} {ta tb te tk tv : TE}
structure BldN (K : PySem.W.Frag) (P : Program) (w : World) (Hs1 H1 : Hp) (D : Addr) (ks : List NestedKey) (Hs H' : Hp) : Prop where
  a : Ex H1 H'
  b : Ex Hs1 Hs
  c : Ex Hs H'
  d : ∀ x o, H1 x = some o → Hs1 x = none → Hs x = none
  n : Hs D = none
  l : ∃ xs, H' D = some (NdO P w D xs) ∧ NdK K Hs xs ∧ xs.map (·.1) = ks
theorem BldN.fw {Hs1 H1 : Hp} {D : Addr} {ks : List NestedKey} {Hs H' Hs2 H2 : Hp} (B : BldN K P w Hs1 H1 D ks Hs H') (f : Fw Hs H' Hs2 H2) : BldN K P w Hs1 H1 D ks Hs2 H2 := by
  obtain ⟨xs, hx, hd, hk⟩ := B.l
  exact ⟨B.a.trans f.a, B.b.trans f.b, f.c, fun x o h n => f.d x o (B.a x o h) (B.d x o h n), f.d D _ hx B.n, xs, f.a D _ hx, hd.ex f.b, hk⟩
theorem evp_dg {α β : Type} [DecidableEq β] {wi : TI} {g : TG} {tt : TT} {vs : List Nat} {S : Nat → L2.St → L2.St → Hp → Prop} (as : List α) (p : α → Bool) (h : α → β) (kk : β → NestedKey) (hinj : ∀ x y, kk x = kk y → x = y) (ht : ∀ b, ∃ l, kk b = .tup l) (hd : ∀ b, (kk b).depth ≤ 8)
    (hw : Wk wi g σ H as.length S) (hn : as.length ≤ 100000)
    (hs : ∀ i a σ2 H', as[i]? = some a → Ex H H' → S i (wipe σ vs) σ2 H' → wipe σ2 vs = wipe σ vs ∧ EvT tt σ2 H' (p a) ∧ (p a = true → EvD K tk σ2 H' (kk (h a)).data ∧ ∃ v, Ev tv σ2 H' v)) :
    EvP (tDg (fun D => NdO P w D []) (PutN K P w) wi g tt tk tv vs) σ H (NdAt K P w ((dd ((as.filter p).map h)).map kk)) := fun Hs0 H0 a0 b0 Q q =>
  hw Hs0 H0 a0 b0 _ fun J Hs1 H1 f1 hJ => fun D hD => by
    refine ⟨fun i m H' => m = as.length - i ∧ i ≤ as.length ∧ ∃ Hs, BldN K P w Hs1 H1 D ((dd (((as.take i).filter p).map h)).map kk) Hs H', ⟨as.length, by simp, Nat.zero_le _, Hs1, Ex.new hD, Ex.refl _, f1.c.trans (Ex.new hD), fun _ _ _ n => n, fresh_back f1.c hD, [], upd_same, (fun x hx => absurd hx (by simp)), rfl⟩, ?_⟩
    rintro i m H' ⟨rfl, hi, Hs, B⟩
    by_cases hlt : i < as.length
    · obtain ⟨_, hgo⟩ := hJ Hs H' B.b B.c
      obtain ⟨go, hy⟩ := hgo i hlt
      have e1 : as[i]? = some as[i] := List.getElem?_eq_getElem hlt
      have et : as.take (i + 1) = as.take i ++ [as[i]] := by rw [List.take_add_one, e1]; rfl
      refine .inr ⟨go, fun H'' => i + 1 ≤ as.length ∧ ∃ Hs, BldN K P w Hs1 H1 D ((dd (((as.take (i + 1)).filter p).map h)).map kk) Hs H'', fun H'' w => ⟨as.length - (i + 1), by omega, rfl, w⟩, fun x H'' y => ?_⟩
      refine hy x H'' y _ _ fun σ2 Hs3 H3 f3 hS => ?_
      have B3 := B.fw f3
      obtain ⟨w1, w2, w3⟩ := hs i _ σ2 Hs3 e1 ((a0.trans f1.b).trans B3.b) hS
      refine ⟨w1, w2 H3 B3.c _ fun H4 e4 => ?_⟩
      have B4 := B3.fw (Fw.skip B3.c e4)
      cases hf : p as[i] with
      | false =>
        show i + 1 ≤ as.length ∧ _
        rw [et, List.filter_append, List.filter_cons_of_neg (by rw [hf]; decide), List.filter_nil, List.append_nil]
        exact ⟨hlt, Hs3, B4⟩
      | true =>
        show tk σ2 H4 _
        obtain ⟨k1, v0, k2⟩ := w3 hf
        refine k1 Hs3 H4 (Ex.refl _) B4.c _ fun y Hs5 H5 f5 hv => ?_
        have B5 := B4.fw f5
        refine k2 H5 (f5.b.trans B5.c) _ fun H6 e6 => ?_
        have B6 := B5.fw (Fw.skip B5.c e6)
        obtain ⟨xs, hx, hd', hk'⟩ := B6.l
        obtain ⟨l, hl⟩ := ht (h as[i])
        have hv' := hv
        rw [hl, NestedKey.data] at hv'
        obtain ⟨b, _, rfl, _⟩ := dp_tup hv'
        have hlen : xs.length ≤ i := by
          have e := congrArg List.length hk'
          rw [List.length_map, List.length_map] at e
          rw [e]
          refine Nat.le_trans (dd_len _) ?_
          rw [List.length_map]
          exact Nat.le_trans (List.length_filter_le _ _) (by rw [List.length_take]; omega)
        refine ⟨xs, kk (h as[i]), b, rfl, hx, hd'.ex B6.c, dp_ex B6.c hv, hd _, sz_lt (by omega), hlt, Hs5, ?_⟩
        rw [et, List.filter_append, List.filter_cons_of_pos (by rw [hf]), List.filter_nil, List.map_append]
        show BldN K P w Hs1 H1 D ((dd (((as.take i).filter p).map h ++ [h as[i]])).map kk) Hs5 _
        rw [dd_snoc, ddOn_map hinj]
        refine ⟨?_, B6.b, ?_, B6.d, B6.n, _, upd_same, hd'.put hv (hd _), ?_⟩
        · exact Ex.mut B6.a hD
        · exact Ex.mut B6.c B6.n
        · rw [ndPut_keys, hk']
    · have ei : i = as.length := by omega
      subst ei
      rw [List.take_length] at B
      obtain ⟨xs, hx, hd', hk'⟩ := B.l
      refine .inl ⟨(hJ Hs H' B.b B.c).1, q _ (upd Hs D (NdO P w D xs)) H' (f1.trans ⟨B.a, B.b.trans (Ex.new B.n), fun x o e => ?_, fun x o e nn => ?_⟩) ⟨D, xs, rfl, upd_same, hd'.ex (Ex.new B.n), hk'⟩⟩
      · by_cases hx' : x = D
        · subst hx'; rw [upd_same] at e; rw [← e]; exact hx
        · rw [upd_ne hx'] at e; exact B.c x o e
      · rw [upd_ne (ne_of_none e hD)]
        exact B.d x o e nn
theorem evd_sortN {ks : List NestedKey} (ha : EvP ta σ H (NdAt K P w ks)) (S : SOk (ks.map (·.data))) : EvD K (tCB (rSortN K P w) (tCons ta tNil)) σ H (.list (dSort (ks.map (·.data)))) := fun Hs H1 a b Q q =>
  ha Hs H1 a b _ fun v Hs2 H2 f p => by
    obtain ⟨a, xs, rfl, h1, h2, rfl⟩ := p
    rw [List.map_map] at S q
    exact ⟨Hs2, a, xs, rfl, f.c, .inl (f.c _ _ h1), h2, S, fun ys l hl hy => q _ _ _ (f.trans (Fw.new f.c hl)) (.lst (sq_of upd_same) (dps_ex (Fw.new f.c hl).b hy))⟩
end
/-! vectors -/
def kV0 (v : Vec) : NestedKey := .tup (v.map .num)
theorem kV0_datas : ∀ v : Vec, NestedKey.datas (v.map .num) = v.map .int
  | [] => by simp [NestedKey.datas]
  | n :: v => by
    show NestedKey.datas (.num n :: v.map .num) = _
    rw [NestedKey.datas, kV0_datas v, NestedKey.data]
    rfl
theorem kV0_data (v : Vec) : (kV0 v).data = dV v := by
  unfold kV0 dV
  rw [NestedKey.data, kV0_datas]
theorem kV0_inj (v w : Vec) (h : kV0 v = kV0 w) : v = w := by
  unfold kV0 at h
  have h1 : v.map NestedKey.num = w.map NestedKey.num := by injection h
  exact (List.map_inj_right (fun a b e => by injection e)).mp h1
theorem kV0_depth (v : Vec) : (kV0 v).depth ≤ 8 := by
  have : ∀ v : Vec, NestedKey.depthAll (v.map .num) = 0 := fun v => by
    induction v with
    | nil => simp [NestedKey.depthAll]
    | cons n v ih =>
      show NestedKey.depthAll (.num n :: v.map .num) = 0
      rw [NestedKey.depthAll, ih, NestedKey.depth]
      rfl
  unfold kV0
  rw [NestedKey.depth, this]
  decide
/-- the order of vectors -/
def vle (a b : Vec) : Bool := !PySem.W.dataLt (dV b) (dV a)
theorem vle_eq : PySem.W.dataLe false dV = vle := rfl
theorem dSort_map {β : Type} (enc : β → PyData) (bs : List β) : dSort (bs.map enc) = (bs.mergeSort (PySem.W.dataLe false enc)).map enc := by
  unfold dSort
  rw [List.map_mergeSort]
  intro a _ b _
  rfl
theorem dSort_V (bs : List Vec) : dSort (bs.map dV) = (bs.mergeSort vle).map dV := dSort_map dV bs
theorem sok_V {bs : List Vec} {n : Nat} (hl : ∀ b ∈ bs, b.length = n) (h1 : n = 0 → bs.length ≤ 1) : SOk (bs.map dV) := by
  refine ⟨PySem.W.AllAlike.of fun b b' => ?_, ?_, fun d hd => ?_⟩
  · unfold dV
    simp only [PySem.W.alike]
    exact PySem.W.alike_ints b b'
  · by_cases hn : n = 0
    · refine .inr ⟨by rw [List.length_map]; exact h1 hn, fun d hd => ?_⟩
      obtain ⟨b, _, rfl⟩ := List.mem_map.mp hd
      exact fun z => nomatch z
    · refine .inl (.inl fun d hd => ?_)
      obtain ⟨b, hb, rfl⟩ := List.mem_map.mp hd
      cases b with
      | nil => exact absurd (hl _ hb) (fun z => hn z.symm)
      | cons x r => exact ⟨.int x, r.map .int, rfl⟩
  · obtain ⟨b, _, rfl⟩ := List.mem_map.mp hd
    unfold dV
    rw [PyData.depth, PySem.W.depth_ints]
    decide
end K02
set_option Elab.async false
set_option linter.all false
set_option maxRecDepth 100000
set_option maxHeartbeats 1000000
/-! ### statements -/
namespace K02
open PySem PySem.Spec PyProof.Rows L2 Evl
/-- a step on, though objects that one does not lean on may have changed -/
structure Fm (Hs H1 Hs2 H2 : Hp) : Prop where
  a : ∀ x, H2 x = none → H1 x = none
  b : Ex Hs Hs2
  c : Ex Hs2 H2
  d : ∀ x o, H1 x = some o → Hs x = none → Hs2 x = none
theorem Fw.m {Hs H1 Hs2 H2 : Hp} (f : Fw Hs H1 Hs2 H2) : Fm Hs H1 Hs2 H2 := ⟨fun x h => fresh_back f.a h, f.b, f.c, f.d⟩
theorem Fm.refl {Hs H1 : Hp} (h : Ex Hs H1) : Fm Hs H1 Hs H1 := ⟨fun _ h => h, Ex.refl _, h, fun _ _ _ n => n⟩
theorem Fm.trans {Hs H1 Hs2 H2 Hs3 H3 : Hp} (f : Fm Hs H1 Hs2 H2) (g : Fm Hs2 H2 Hs3 H3) : Fm Hs H1 Hs3 H3 := ⟨fun x h => f.a x (g.a x h), f.b.trans g.b, g.c, fun x o h n => by
  cases e : H2 x with
  | none => rw [f.a x e] at h; cases h
  | some u => exact g.d x u e (f.d x o h n)⟩
theorem Fm.mut {Hs H1 : Hp} {p : Addr} {o : HO} (h : Ex Hs H1) (n : Hs p = none) : Fm Hs H1 Hs (upd H1 p o) := ⟨fun x q => by
  by_cases e : x = p
  · subst e; rw [upd_same] at q; cases q
  · rw [upd_ne e] at q; exact q, Ex.refl _, Ex.mut h n, fun _ _ _ n => n⟩
section
variable {K : PySem.W.Frag} {σ : L2.St} {H H' Hs : Hp} {ta tb te tx : TE} {t u : TT} {tu tw tz : TS} {x y z v : V} {P : V → Hp → Prop} {D : Ends}
theorem y_next (h : D.nx σ H) : tNext D σ H := h
theorem y_asg {i : Nat} (h : EvP te σ Hs P) (e : Ex Hs H) (k : ∀ v Hs1 H1, Fw Hs H Hs1 H1 → P v Hs1 → D.nx (σ.set i (some v)) H1) : tAsg te (gName i) D σ H := h Hs H (Ex.refl _) e _ k
theorem y_ret (h : EvP te σ Hs P) (e : Ex Hs H) (k : ∀ v Hs1 H1, Fw Hs H Hs1 H1 → P v Hs1 → D.rt v H1) : tRet te D σ H := h Hs H (Ex.refl _) e _ k
theorem y_drop (h : EvP te σ Hs P) (e : Ex Hs H) (k : ∀ v Hs1 H1, Fw Hs H Hs1 H1 → P v Hs1 → D.nx σ H1) : tDrop te D σ H := h Hs H (Ex.refl _) e _ k
theorem y_if {b : Bool} (h : EvT t σ Hs b) (e : Ex Hs H) (h1 : b = true → ∀ H1, Ex H H1 → tu D σ H1) (h2 : b = false → ∀ H1, Ex H H1 → tw D σ H1) : tIfS t tu tw D σ H := h H e _ fun H1 e1 => by
  cases b with
  | true => exact h1 rfl H1 e1
  | false => exact h2 rfl H1 e1
theorem y_for {wi : TI} {g : TG} {n : Nat} {S : Nat → L2.St → L2.St → Hp → Prop} (hw : Wk wi g σ Hs n S) (e : Ex Hs H) (Iv : Nat → L2.St → Hp → Hp → Prop)
    (h0 : ∀ Hs1 H1, Fw Hs H Hs1 H1 → Iv 0 σ Hs1 H1)
    (turn : ∀ i σ' Hs' H', i < n → Fm Hs H Hs' H' → Iv i σ' Hs' H' → ∀ σ2 Hs3 H3, Fw Hs' H' Hs3 H3 → S i σ' σ2 Hs3 → ∀ N : L2.St → Hp → Prop, (∀ σ'' Hs'' H'', Fm Hs' H' Hs'' H'' → Iv (i + 1) σ'' Hs'' H'' → N σ'' H'') → tu { D with nx := N, ct := N, bk := D.nx } σ2 H3)
    (done : ∀ σ' Hs' H', Fm Hs H Hs' H' → Iv n σ' Hs' H' → D.nx σ' H') : tFor wi g tu D σ H :=
  hw Hs H (Ex.refl _) e _ fun J Hs1 H1 f1 hJ => by
    refine ⟨fun i m σ' H' => m = n - i ∧ i ≤ n ∧ ∃ Hs', Fm Hs1 H1 Hs' H' ∧ Iv i σ' Hs' H', ⟨n, by simp, Nat.zero_le _, Hs1, Fm.refl f1.c, h0 Hs1 H1 f1⟩, ?_⟩
    rintro i m σ' H' ⟨rfl, hi, Hs', f, iv⟩
    obtain ⟨hstop, hgo⟩ := hJ Hs' H' f.b f.c
    by_cases hlt : i < n
    · obtain ⟨go, hy⟩ := hgo i hlt
      refine .inr ⟨go, fun σ'' H'' => i + 1 ≤ n ∧ ∃ Hs'', Fm Hs1 H1 Hs'' H'' ∧ Iv (i + 1) σ'' Hs'' H'', fun σ'' H'' w => ⟨n - (i + 1), by omega, rfl, w⟩, fun x H'' y => ?_⟩
      refine hy x H'' y _ _ fun σ2 Hs3 H3 f3 hS => turn i σ' Hs' H' hlt (f1.m.trans f) iv σ2 Hs3 H3 f3 hS _ fun σ4 Hs4 H4 f4 iv4 => ⟨hlt, Hs4, f.trans f4, iv4⟩
    · have ei : i = n := by omega
      subst ei
      exact .inl ⟨hstop, done σ' Hs' H' (f1.m.trans f) iv⟩
theorem y_while {tc : TT} (M : L2.St → Hp → Hp → Prop) (μ : L2.St → Hp → Hp → Nat → Prop) (e : Ex Hs H) (h0 : M σ Hs H) (m0 : ∃ m, μ σ Hs H m)
    (turn : ∀ σ' Hs' H' m, Fm Hs H Hs' H' → M σ' Hs' H' → μ σ' Hs' H' m → ∃ b, EvT tc σ' H' b ∧ (b = false → ∀ H1, Ex H' H1 → D.nx σ' H1) ∧ (b = true → ∀ H1, Ex H' H1 → ∀ N : L2.St → Hp → Prop, (∀ σ'' Hs'' H'', Fm Hs' H' Hs'' H'' → M σ'' Hs'' H'' → (∃ m', m' < m ∧ μ σ'' Hs'' H'' m') → N σ'' H'') → tu { D with nx := N, ct := N, bk := D.nx } σ' H1)) :
    tWhile tc tu D σ H := by
  obtain ⟨m0, hm0⟩ := m0
  refine ⟨fun m σ' H' => ∃ Hs', Fm Hs H Hs' H' ∧ M σ' Hs' H' ∧ μ σ' Hs' H' m, ⟨m0, Hs, Fm.refl e, h0, hm0⟩, ?_⟩
  rintro m σ' H' ⟨Hs', f, hM, hm⟩
  obtain ⟨b, h1, h2, h3⟩ := turn σ' Hs' H' m f hM hm
  refine h1 H' (Ex.refl _) _ fun H1 e1 => ?_
  cases b with
  | false => exact h2 rfl H1 e1
  | true =>
    refine ⟨fun σ'' H'' => ∃ m', m' < m ∧ ∃ Hs', Fm Hs H Hs' H'' ∧ M σ'' Hs' H'' ∧ μ σ'' Hs' H'' m', fun σ'' H'' ⟨m', l, w⟩ => ⟨m', l, w⟩, h3 rfl H1 e1 _ fun σ'' Hs'' H'' f4 iv4 ⟨m', l, mm⟩ => ⟨m', l, Hs'', f.trans f4, iv4, mm⟩⟩
theorem y_item2 {r : Addr} {vs : List V} {i j k : Nat} {a b : PyData} (ha : Ev ta σ H (.ref r)) (hb : Ev tb σ H (.int (i : Int))) (hr : H r = some (.lst vs)) (hi : vs[i]? = some v) (hv : Dp K Hs v (.tuple [a, b])) (e : Ex Hs H)
    (q : ∀ x y H1, Ex H H1 → Dp K Hs x a → Dp K Hs y b → D.nx ((σ.set j (some x)).set k (some y)) H1) : tAsg (tOp (rIxL K) ta tb) (g2 K j k) D σ H :=
  ha H (Ex.refl _) _ fun H1 e1 => hb H1 e1 _ fun H2 e2 => by
    obtain ⟨T, zs, rfl, hz, hzs⟩ := dp_tup hv
    cases hzs with
    | cons p1 r1 =>
      cases r1 with
      | cons p2 r2 =>
        cases r2
        exact ⟨r, vs, i, .ref T, rfl, rfl, sq_of (e2 _ _ (e1 _ _ hr)), atI_nat hi, g2_of (ex_t (e.trans (e1.trans e2)) hz) (q _ _ H2 (e1.trans e2) p1 p2)⟩
/-- promises that give data -/
def spD (K : PySem.W.Frag) (R : List V → Hp → PyData → Prop) : Sp := fun vs H Q _ => ∃ (Hs : Hp) (d : PyData), Ex Hs H ∧ R vs Hs d ∧ ∀ v Hs2 H2, Fw Hs H Hs2 H2 → Dp K Hs2 v d → Q v H2
theorem evd_call {E : XK} {ta : TA} {ds : List PyData} {R : List V → Hp → PyData → Prop} {d : PyData} (h : EvAD K ta σ H ds) (hR : ∀ vs Hs, Ex H Hs → DpAll K Hs vs ds → R vs Hs d) : EvD K (tCall (spD K R) [] E ta) σ H d :=
  evp_call (R := fun vs H2 => DpAll K H2 vs ds) h fun Hs H1 a b vs hvs Q hQ => ⟨Hs, d, b, by rw [List.append_nil]; exact hR vs Hs a hvs, hQ⟩
theorem dps2 {vs : List V} {a b : PyData} (h : DpAll K H vs [a, b]) : ∃ x y, vs = [x, y] ∧ Dp K H x a ∧ Dp K H y b := by
  cases h with
  | cons h1 h => cases h with
    | cons h2 h => cases h; exact ⟨_, _, rfl, h1, h2⟩
theorem dps1 {vs : List V} {a : PyData} (h : DpAll K H vs [a]) : ∃ x, vs = [x] ∧ Dp K H x a := by
  cases h with
  | cons h1 h => cases h; exact ⟨_, rfl, h1⟩
theorem dps3 {vs : List V} {a b c : PyData} (h : DpAll K H vs [a, b, c]) : ∃ x y z, vs = [x, y, z] ∧ Dp K H x a ∧ Dp K H y b ∧ Dp K H z c := by
  cases h with
  | cons h1 h => cases h with
    | cons h2 h => cases h with
      | cons h3 h => cases h; exact ⟨_, _, _, rfl, h1, h2, h3⟩
end
end K02
set_option Elab.async false
set_option linter.all false
set_option maxRecDepth 100000
set_option maxHeartbeats 1000000
/-! ### least_of, falls_of and what is like them -/
namespace K02
open PySem PySem.Spec PyProof.Rows L2 Evl

/-- the least of some vectors, in order -/
def told (vs : List Vec) : List Vec := (dd vs).mergeSort vle
def leastOf (vs : List Vec) : List Vec := (told vs).filter fun v => isLeast v (told vs)
theorem told_mem (vs : List Vec) (v : Vec) : v ∈ told vs ↔ v ∈ vs := by
  unfold told
  rw [(List.mergeSort_perm _ _).mem_iff, dd_mem]
theorem told_len (vs : List Vec) : (told vs).length ≤ vs.length := by
  unfold told
  rw [List.length_mergeSort]
  exact dd_len vs
/-- one length -/
def OneLen (n : Nat) (vs : List Vec) : Prop := ∀ v ∈ vs, v.length = n
theorem oneLen_dd {n : Nat} {vs : List Vec} (h : OneLen n vs) : n = 0 → (dd vs).length ≤ 1 := fun e => by
  have hn := dd_nodup vs
  have hm : ∀ v ∈ dd vs, v = [] := fun v hv => List.length_eq_zero_iff.mp ((h v ((dd_mem vs v).mp hv)).trans e)
  cases q : dd vs with
  | nil => simp
  | cons a l =>
    cases l with
    | nil => simp
    | cons b l =>
      rw [q] at hn hm
      have e1 := hm a (by simp)
      have e2 := hm b (by simp)
      rw [e1, e2] at hn
      simp at hn
def rLeastOf (K : PySem.W.Frag) : List V → Hp → PyData → Prop := fun vs Hs d => ∃ (x : V) (os : List Vec) (n : Nat), vs = [x] ∧ Dp K Hs x (.list (os.map dV)) ∧ OneLen n os ∧ n ≤ 1000 ∧ os.length ≤ 100000 ∧ d = .list ((leastOf os).map dV)
section
variable {P : Program} {w : World} {K : PySem.W.Frag} {mg : Str → Option Value} {base : Heap}
theorem scLeastOf : FnScope ["vectors", "told", "vector"] ["vectors"] (defScope sLeastOf) := ⟨rfl, rfl, rfl, by decide +kernel, rfl, by decide +kernel, by decide +kernel⟩
abbrev NLO : List Str := ["vectors", "told", "vector"]
theorem ok_leastOf (T : G K mg) : Ok P w K mg base CX0 3 (He.ga K "least_of") ["vectors"] (spD K (rLeastOf K)) := by
  obtain ⟨fd, F⟩ := T.fun0 10
  obtain ⟨fdB, GB, bB, kB⟩ := ok_least (P := P) (w := w) (base := base) T
  refine ok_of F scLeastOf (fun vs H Q E h => ?_) (fun _ _ _ _ _ _ us hl => match us, hl with | [_], _ => rfl) fun cdv A outer s H vs Q E hr h => ?_
  · obtain ⟨_, _, _, ⟨x, _, _, rfl, _⟩, _⟩ := h
    rfl
  · obtain ⟨Hs, d, eH, ⟨x, os, n, rfl, hx, h1, hn, hz, rfl⟩, k⟩ := h
    refine ⟨_, pss_cons (ps_set (i := 1) scLeastOf.nd rfl (Or.inr rfl) (pe_callB (cr_sortN rfl hr.units) rfl (T.fr "sorted") (by decide +kernel) (pa_cons
        (pe_dg (own := [("vector", 2)]) (O0 := fun D => NdO P w D []) (P := PutN K P w) (g := gName 2) (tt := tYes) (tk := tVar 2) (tv := tC (.bl true)) rfl scLeastOf.nd (pi_list (pv 0)) (blkOk_by (N := NLO) (sc := defScope sLeastOf) (by decide +kernel))
          (fun h H hb => ndO_ok (nd_empty h hb)) (fun s H ce fp => putN_ok hr.units)
          (fun _ _ _ _ _ => pg_name (i := 2) scLeastOf.nd rfl (Or.inl rfl)) (fun _ _ _ _ _ => pts_nil) (fun _ _ _ _ _ => pv 2) (fun _ _ _ _ _ => pe_bl)) pa_nil)))
      (pss_one (ps_ret (pe_lc (own := [("vector", 2)]) (g := gName 2) (tt := tTest (tCall (spLeast K) [] E0 (tCons (tVar 2) (tCons (tVar 1) tNil)))) (te := tVar 2) rfl scLeastOf.nd (pi_list (pv 1)) (blkOk_by (N := NLO) (sc := defScope sLeastOf) (by decide +kernel))
          (fun _ _ _ _ _ => pg_name (i := 2) scLeastOf.nd rfl (Or.inl rfl))
          (fun _ _ _ _ _ => pts_one (pt_val (pe_call GB hr rfl (T.gl "is_least") kB bB .nil pass0 (pa_cons (pv 2) (pa_cons (pv 1) pa_nil))))) (fun _ _ _ _ _ => pv 2)))), ?_⟩
    have key := evd_sortN (evp_dg (K := K) (P := P) (w := w) (σ := start NLO [x]) (H := Hs) (vs := [2]) (tk := tVar 2) (tv := tC (.bl true)) (tt := tYes) os (fun _ => true) id kV0 kV0_inj (fun b => ⟨_, rfl⟩) kV0_depth (wk_listA os dV (j := 2) (evd_var (i := 0) (v := x) rfl hx)) hz fun i o σ2 H' hi e hS => by
      obtain ⟨u, ⟨a1, e1, p1⟩, rfl⟩ := hS
      rw [hi] at e1
      cases e1
      exact ⟨rfl, et_yes, fun _ => ⟨by rw [kV0_data]; exact evd_var rfl p1, _, ev_c⟩⟩) ?_
    · have e1 : ((dd ((os.filter fun _ => true).map id)).map kV0).map (·.data) = (dd os).map dV := by
        rw [List.filter_eq_self.mpr (fun _ _ => rfl), List.map_id, List.map_map]
        exact List.map_congr_left fun v _ => kV0_data v
      rw [e1, dSort_V] at key
      refine y_asg key eH fun v Hs1 H1 f1 hv => ?_
      have hlen : (told os).length ≤ 100000 := Nat.le_trans (told_len os) hz
      have lens : ∀ v ∈ told os, v.length ≤ 1000 := fun v hv => by rw [h1 v ((told_mem os v).mp hv)]; exact hn
      refine y_ret (evd_lcA (K := K) (vs := [2]) (te := tVar 2) (told os) (fun v => isLeast v (told os)) dV (wk_listA (told os) dV (j := 2) (evd_var (i := 1) (v := v) rfl hv)) hlen fun i o σ2 H' hi e hS => ?_) f1.c fun r Hs2 H2 f2 hr => k r Hs2 H2 (f1.trans f2) hr
      obtain ⟨u, ⟨a1, e1, p1⟩, rfl⟩ := hS
      rw [hi] at e1
      cases e1
      refine ⟨rfl, et_B (evb_call (R := fun vs H2 => DpAll K H2 vs [dV o, .list ((told os).map dV)]) (ead_cons (evd_var rfl p1) (ead_cons (evd_var (v := v) rfl (dp_ex e hv)) ead_nil)) fun Hs3 H3 _ e4 vs hvs Q hQ => ?_), fun _ => evd_var rfl p1⟩
      obtain ⟨a, b, rfl, r1, r2⟩ := dps2 hvs
      have ho := List.mem_of_getElem? hi
      exact ⟨Hs3, a, b, o, told os, rfl, e4, r1, r2, fun w hw => (List.mem_cons.mp hw).elim (fun q => q ▸ lens o ho) (lens w), hlen, hQ⟩
    · have e1 : ((dd ((os.filter fun _ => true).map id)).map kV0).map (·.data) = (dd os).map dV := by
        rw [List.filter_eq_self.mpr (fun _ _ => rfl), List.map_id, List.map_map]
        exact List.map_congr_left fun v _ => kV0_data v
      rw [e1]
      exact sok_V (n := n) (fun b hb => h1 b ((dd_mem os b).mp hb)) (oneLen_dd h1)
end
end K02
set_option Elab.async false
set_option linter.all false
set_option maxRecDepth 100000
set_option maxHeartbeats 1000000
/-! ### is_number, is_word -/
namespace K02
open PySem PySem.Spec PyProof.Rows L2 Evl
def tyD : PyData → Value
  | .none => .type "NoneType"
  | .bool _ => .type "bool"
  | .int _ => .type "int"
  | .str _ => .type "str"
  | .list _ => .type "list"
  | .tuple _ => .type "tuple"
  | .dict _ => .type "dict"
def isIntT : PyData → Bool
  | .int _ => true
  | .bool _ => true
  | _ => false
def isBlT : PyData → Bool
  | .bool _ => true
  | _ => false
def isStrT : PyData → Bool
  | .str _ => true
  | _ => false
def isTupT : PyData → Bool
  | .tuple _ => true
  | _ => false
def isListT : PyData → Bool
  | .list _ => true
  | _ => false
theorem ty_of {K : PySem.W.Frag} {H : Hp} {v : V} {d : PyData} (h : Dp K H v d) : TyX K H v (tyD d) := by
  cases h with
  | non => exact .base .non
  | bl b => exact .base (.bl b)
  | int i => exact .base (.int i)
  | str x => exact .base (.str x)
  | lst h t =>
    rcases h with (h | ⟨o, h⟩) | ⟨o, its, n, h1, h2, _⟩
    · exact .base (.lst h)
    · exact .base (.frz h)
    · exact .kList h1 h2
  | tup h t =>
    rcases h with (h | ⟨o, h⟩) | ⟨o, its, n, h1, h2, _⟩
    · exact .base (.tup h)
    · exact .fTuple h
    · exact .kTuple h1 h2
section
variable {K : PySem.W.Frag} {σ : L2.St} {H : Hp} {te : TE}
theorem ev_isi {T : String} {d : PyData} {b : Bool} (h : EvD K te σ H d) (e : PySem.W.kitOne K (tyD d) (.type T) = some b) : Ev (tCB (rIsi K) (tCons te (tCons (tC (.ty T)) tNil))) σ H (.bl b) := fun H1 x Q q =>
  h H H1 (Ex.refl _) x _ fun v Hs2 H2 f p => ⟨v, .ty T, _, _, b, rfl, .ty T, ty_of (dp_ex f.c p), e, q H2 f.a⟩
theorem kit_int (d : PyData) : PySem.W.kitOne K (tyD d) (.type "int") = some (isIntT d) := by
  cases d <;> first | rfl | (simp [tyD]; rfl)
theorem kit_bool (d : PyData) : PySem.W.kitOne K (tyD d) (.type "bool") = some (isBlT d) := by
  cases d <;> first | rfl | (simp [tyD]; rfl)
theorem kit_str (d : PyData) : PySem.W.kitOne K (tyD d) (.type "str") = some (isStrT d) := by
  cases d <;> first | rfl | (simp [tyD]; rfl)
theorem kit_tuple (d : PyData) : PySem.W.kitOne K (tyD d) (.type "tuple") = some (isTupT d) := by
  cases d <;> first | rfl | (simp [tyD]; rfl)
theorem kit_list (d : PyData) : PySem.W.kitOne K (tyD d) (.type "list") = some (isListT d) := by
  cases d <;> first | rfl | (simp [tyD]; rfl)
theorem kit_seq (d : PyData) : PySem.W.kitAny K (tyD d) [.type "list", .type "tuple"] = some (isListT d || isTupT d) := by
  unfold PySem.W.kitAny
  rw [kit_list]
  cases isListT d with
  | true => rfl
  | false =>
    show (match PySem.W.kitOne K (tyD d) (.type "tuple") with | some true => some true | some false => some false | none => none) = _
    rw [kit_tuple]
    cases isTupT d <;> rfl
/-- isinstance(x, (list, tuple)) -/
theorem ev_isiSeq {d : PyData} (h : EvD K te σ H d) : Ev (tCB (rIsiT K) (tCons te (tCons (tTup (tCons (tC (.ty "list")) (tCons (tC (.ty "tuple")) tNil))) tNil))) σ H (.bl (isListT d || isTupT d)) := fun H1 x Q q =>
  h H H1 (Ex.refl _) x _ fun v Hs2 H2 f p => ⟨by show 2 ≤ sizeLine; decide, fun a ha => ⟨v, a, [.ty "list", .ty "tuple"], _, [.type "list", .type "tuple"], _, rfl, upd_same, .cons (.ty _) (.cons (.ty _) .nil), ty_of (dp_ex (f.c.trans (Ex.new ha)) p), kit_seq d, q _ (f.a.trans (Ex.new ha))⟩⟩
end
def isNum : PyData → Bool
  | .int _ => true
  | _ => false
def signB (c : Nat) : Bool := (!decide (([c] : List Nat) < (Str.ofString "a").cps.toList)) && !decide ((Str.ofString "z").cps.toList < ([c] : List Nat))
def wordB (x : Str) : Bool := decide (1 ≤ x.length) && decide (x.length ≤ 8) && x.cps.toList.all signB
/-- promises that give a bool and change nothing -/
def spB (K : PySem.W.Frag) (R : List V → Hp → Bool → Prop) : Sp := fun vs H Q _ => ∃ (Hs : Hp) (b : Bool), Ex Hs H ∧ R vs Hs b ∧ ∀ H2, Ex H H2 → Q (.bl b) H2
theorem evb_callB {K : PySem.W.Frag} {σ : L2.St} {H : Hp} {E : XK} {ta : TA} {ds : List PyData} {R : List V → Hp → Bool → Prop} {b : Bool} (h : EvAD K ta σ H ds) (hR : ∀ vs Hs, Ex H Hs → DpAll K Hs vs ds → R vs Hs b) : Ev (tCall (spB K R) [] E ta) σ H (.bl b) :=
  evb_call (R := fun vs H2 => DpAll K H2 vs ds) h fun Hs H1 a c vs hvs Q hQ => ⟨Hs, b, c, by rw [List.append_nil]; exact hR vs Hs a hvs, hQ⟩
/-- one argument, data -/
def r1D (K : PySem.W.Frag) (f : PyData → Bool) : List V → Hp → Bool → Prop := fun vs Hs b => ∃ x d, vs = [x] ∧ Dp K Hs x d ∧ b = f d
theorem evb_call1 {K : PySem.W.Frag} {σ : L2.St} {H : Hp} {E : XK} {te : TE} {d : PyData} {f : PyData → Bool} (h : EvD K te σ H d) : Ev (tCall (spB K (r1D K f)) [] E (tCons te tNil)) σ H (.bl (f d)) :=
  evb_callB (ead_cons h ead_nil) fun vs Hs _ hvs => by
    obtain ⟨x, rfl, hx⟩ := dps1 hvs
    exact ⟨x, d, rfl, hx, rfl⟩
section
variable {P : Program} {w : World} {K : PySem.W.Frag} {mg : Str → Option Value} {base : Heap}
theorem scNumber : FnScope ["thing"] ["thing"] (defScope sNumber) := ⟨rfl, rfl, rfl, by decide +kernel, rfl, by decide +kernel, by decide +kernel⟩
theorem ok_number (T : G K mg) : Ok P w K mg base CX0 1 (He.ga K "is_number") ["thing"] (spB K (r1D K isNum)) := by
  obtain ⟨fd, F⟩ := T.fun0 3
  refine ok_of F scNumber (fun vs H Q E h => ?_) (fun _ _ _ _ _ _ us hl => match us, hl with | [_], _ => rfl) fun cdv A outer s H vs Q E hr h => ?_
  · obtain ⟨_, _, _, ⟨x, _, rfl, _⟩, _⟩ := h
    rfl
  · obtain ⟨Hs, b, eH, ⟨x, d, rfl, hx, rfl⟩, k⟩ := h
    refine ⟨_, pss_one (ps_ret (pe_and (pe_callB call_isi rfl (T.fr "isinstance") (by decide +kernel) (pa_cons (pv 0) (pa_cons (pe_bltn rfl (T.fr "int") (by decide +kernel) (v := .ty "int") rfl) pa_nil)))
      (pe_one (pe_not (pe_callB call_isi rfl (T.fr "isinstance") (by decide +kernel) (pa_cons (pv 0) (pa_cons (pe_bltn rfl (T.fr "bool") (by decide +kernel) (v := .ty "bool") rfl) pa_nil))))))), ?_⟩
    have hx' : EvD K (tVar 0) (start ["thing"] [x]) Hs d := evd_var (v := x) rfl hx
    have key := ev_andV (ev_isi hx' (kit_int d)) fun _ => ev_notV (ev_isi hx' (kit_bool d))
    have e : (isIntT d && !isBlT d) = isNum d := by cases d <;> rfl
    rw [e] at key
    exact key H eH _ k
theorem ev_chainB {r r' : R2} {σ : L2.St} {H : Hp} {ta tb tc : TE} {x y z : V} {a b : Bool} (ha : Ev ta σ H x) (hb : Ev tb σ H y) (r1 : RV r x y H (.bl a)) (hc : a = true → Ev tc σ H z) (r2 : a = true → RV r' y z H (.bl b)) : Ev (tChain r r' ta tb tc) σ H (.bl (a && b)) := fun H1 e Q q =>
  ha H1 e _ fun H2 e2 => hb H2 (e.trans e2) _ fun H3 e3 => r1 H3 ((e.trans e2).trans e3) _ fun H4 e4 => ⟨a, rfl, by
    cases a with
    | false => exact q H4 ((e2.trans e3).trans e4)
    | true => exact hc rfl H4 (((e.trans e2).trans e3).trans e4) _ fun H5 e5 => r2 rfl H5 ((((e.trans e2).trans e3).trans e4).trans e5) _ fun H6 e6 => q H6 ((((e2.trans e3).trans e4).trans e5).trans e6)⟩
def rLeS : R2 := fun x y H Q => ∃ i j, x = .str i ∧ y = .str j ∧ Q (.bl (!decide (j.cps.toList < i.cps.toList))) H
theorem rv_leS {H : Hp} {i j : Str} : RV rLeS (.str i) (.str j) H (.bl (!decide (j.cps.toList < i.cps.toList))) := fun H1 _ _ q => ⟨i, j, rfl, rfl, q H1 (Ex.refl _)⟩
theorem wk_str {te : TE} {σ : L2.St} {H : Hp} {x : Str} {j : Nat} (h : Ev te σ H (.str x)) : Wk (iStr te) (gName j) σ H x.cps.size (S1 j fun i v _ => ∃ c, x.cps[i]? = some c ∧ v = .str ⟨#[c]⟩) := fun Hs H0 a0 b0 R q =>
  h H0 (a0.trans b0) _ fun H1 e1 => ⟨x, rfl, q _ Hs H1 (Fw.skip b0 e1) fun Hs' H' e2 e3 => ⟨Nat.le_refl _, fun i hi => ⟨hi, fun v H'' y => by
    obtain ⟨e4, y⟩ := y
    subst e4
    intro σb Q hQ
    exact hQ _ Hs' _ (Fw.refl e3) ⟨v, y, rfl⟩⟩⟩⟩
theorem Wk.cast {wi : TI} {g : TG} {σ : L2.St} {H : Hp} {n m : Nat} {S : Nat → L2.St → L2.St → Hp → Prop} (h : Wk wi g σ H n S) (e : n = m) : Wk wi g σ H m S := e ▸ h
theorem ev_lenS {te : TE} {σ : L2.St} {H : Hp} {x : Str} (h : Ev te σ H (.str x)) (hz : x.length ≤ 100000) : Ev (tCB (fun xs H Q => ∃ z : Str, xs = [.str z] ∧ z.length ≤ sizeLine ∧ Q (.int z.length) H) (tCons te tNil)) σ H (.int (x.length : Int)) := fun H1 e Q q =>
  h H1 e _ fun H2 e2 => ⟨x, rfl, sz_of hz, q H2 e2⟩
theorem scWord : FnScope ["thing", "sign"] ["thing"] (defScope sWord) := ⟨rfl, rfl, rfl, by decide +kernel, rfl, by decide +kernel, by decide +kernel⟩
def rWord : List V → Hp → Bool → Prop := fun vs _ b => ∃ x : Str, vs = [.str x] ∧ x.length ≤ 100000 ∧ b = wordB x
theorem ok_word (T : G K mg) : Ok P w K mg base CX0 1 (He.ga K "is_word") ["thing"] (spB K rWord) := by
  obtain ⟨fd, F⟩ := T.fun0 4
  obtain ⟨tk, hl⟩ := T.letters
  refine ok_of F scWord (fun vs H Q E h => ?_) (fun _ _ _ _ _ _ us hl => match us, hl with | [_], _ => rfl) fun cdv A outer s H vs Q E hr h => ?_
  · obtain ⟨_, _, _, ⟨x, rfl, _⟩, _⟩ := h
    rfl
  · obtain ⟨Hs, b, eH, ⟨x, rfl, hz, rfl⟩, k⟩ := h
    refine ⟨_, pss_cons (ps_if (PW.pt (pw_or (pt_not (pt_val (pe_callB call_isi rfl (T.fr "isinstance") (by decide +kernel) (pa_cons (pv 0) (pa_cons (pe_bltn rfl (T.fr "str") (by decide +kernel) (v := .ty "str") rfl) pa_nil)))))
        (pw_or1 (pt_not (pt_chain op_le op_le pe_int (pe_callB call_len_str rfl (T.fr "len") (by decide +kernel) (pa_cons (pv 0) pa_nil)) (pe_glob rfl hl (v := .int 8) ⟨tk, rfl⟩)))))) (pss_one (ps_ret pe_bl)) pss_nil)
      (pss_one (ps_ret (pe_callB (cr_all rfl) rfl (T.fr "all") (by decide +kernel) (pa_cons (pe_lc (own := [("sign", 1)]) (g := gName 1) (tt := tYes) rfl scWord.nd (pi_str (pv 0)) (blkOk_by (N := ["thing", "sign"]) (sc := defScope sWord) (by decide +kernel))
        (fun _ _ _ _ _ => pg_name (i := 1) scWord.nd rfl (Or.inl rfl)) (fun _ _ _ _ _ => pts_nil) (fun _ _ _ _ _ => pe_chain op_le_str op_le_str pe_str (pv 1) pe_str)) pa_nil)))), ?_⟩
    have hx' : EvD K (tVar 0) (start ["thing", "sign"] [.str x]) Hs (.str x) := evd_var (v := .str x) rfl (.str x)
    have hv : Ev (tVar 0) (start ["thing", "sign"] [.str x]) Hs (.str x) := ev_var rfl
    have t1 := et_or (et_not (et_B (ev_isi hx' (kit_str _)))) fun _ => et_not (et_test (ev_chainB (r := rI0 fun i j => .bl (decide (i ≤ j))) (r' := rI0 fun i j => .bl (decide (i ≤ j))) (ev_c (v := .int 1)) (ev_lenS hv hz) rv_I0 (fun _ => ev_c (v := .int 8)) fun _ => rv_I0))
    refine y_if t1 eH (fun hb H1 e1 => ?_) fun hb H1 e1 => ?_
    · refine y_ret (evd_c (K := K) (.bl false)) (eH.trans e1) fun v Hs2 H2 f2 hv => ?_
      rw [dp_bl hv]
      have e : wordB x = false := by
        unfold wordB
        simp [isStrT] at hb
        by_cases h1 : 1 ≤ x.length
        · have h2 : ¬ x.length ≤ 8 := by omega
          simp [h2]
        · simp [h1]
      rw [← e]
      exact k _ (e1.trans f2.a)
    · have e : wordB x = x.cps.toList.all signB := by
        unfold wordB
        simp [isStrT] at hb
        have h1 : 1 ≤ x.length := by omega
        have h2 : x.length ≤ 8 := by omega
        simp [h1, h2]
      rw [e] at k
      have key := evd_lcM (K := K) (vs := [1]) (te := tChain rLeS rLeS (tC (.str "a")) (tVar 1) (tC (.str "z"))) x.cps.toList (fun c => PyData.bool (signB c)) ((wk_str (j := 1) hv).cast (by simp)) (by have : x.cps.toList.length = x.length := rfl; omega) fun i c σ2 H' hi e hS => by
        obtain ⟨u, ⟨c', e1, rfl⟩, rfl⟩ := hS
        rw [Array.getElem?_toList] at hi
        rw [hi] at e1
        cases e1
        exact ⟨rfl, evd_bl (ev_chainB ev_c (ev_var rfl) rv_leS (fun _ => ev_c) fun _ => rv_leS)⟩
      have em : x.cps.toList.map (fun c => PyData.bool (signB c)) = (x.cps.toList.map signB).map PyData.bool := by rw [List.map_map]; rfl
      rw [em] at key
      refine ev_all key H1 (eH.trans e1) _ fun H2 e2 => ?_
      rw [List.all_map]
      exact k _ (e1.trans e2)
end
end K02
set_option Elab.async false
set_option linter.all false
set_option maxRecDepth 100000
set_option maxHeartbeats 1000000
/-! ### machines -/
namespace K02
open PySem PySem.Spec PyProof.Rows L2 Evl
structure Stp where
  st : Int
  ki : Str
  se : Str
  go : Int
deriving DecidableEq
def dStp (s : Stp) : PyData := .tuple [.int s.st, .str s.ki, .str s.se, .int s.go]
structure Stp.Good (s : Stp) : Prop where
  ki : PyData.strOk s.ki = true
  se : PyData.strOk s.se = true
structure Mac where
  many : Nat
  steps : List Stp
  kinds : List Str
  ways : Nat → List Stp
  sok : ∀ s ∈ steps, s.Good
  wok : ∀ i, ∀ s ∈ ways i, s.Good
  kok : ∀ k ∈ kinds, PyData.strOk k = true
def waysD (M : Mac) : List (Int × PyData) := (List.range M.many).map fun i : Nat => ((i : Int), .list ((M.ways i).map dStp))
def MacAt (K : PySem.W.Frag) (M : Mac) (v : V) (H : Hp) : Prop := ∃ a dx fs s kd d kvs, v = .ref a ∧ H a = some (.ins (He.ga K "Machine") dx fs) ∧ fs.lookup ("many" : Str) = some (.int M.many) ∧ (fs.lookup ("steps" : Str) = some s ∧ Dp K H s (.tuple (M.steps.map dStp))) ∧
  (fs.lookup ("kinds" : Str) = some kd ∧ Dp K H kd (.list (M.kinds.map .str))) ∧ fs.lookup ("ways" : Str) = some (.ref d) ∧ Rd H d (.dK kvs) ∧ EntD K H kvs (waysD M)
theorem entD_ex {K : PySem.W.Frag} {H H' : Hp} (e : Ex H H') {kvs : List (Key × V)} {ents : List (Int × PyData)} (h : EntD K H kvs ents) : EntD K H' kvs ents := by
  unfold EntD at h ⊢
  induction h with
  | nil => exact .nil
  | cons r t ih => exact .cons ⟨r.1, dp_ex e r.2⟩ ih
theorem MacAt.ex {K : PySem.W.Frag} {M : Mac} {v : V} {H H' : Hp} (e : Ex H H') (h : MacAt K M v H) : MacAt K M v H' := by
  obtain ⟨a, dx, fs, s, kd, d, kvs, h1, h2, h3, ⟨h4, h5⟩, ⟨h6, h7⟩, h8, h9, h10⟩ := h
  exact ⟨a, dx, fs, s, kd, d, kvs, h1, e _ _ h2, h3, ⟨h4, dp_ex e h5⟩, ⟨h6, dp_ex e h7⟩, h8, ex_rd e h9, entD_ex e h10⟩
/-- looking into such a dict -/
def entL (ents : List (Int × PyData)) (i : Int) : Option PyData := (ents.find? fun e => decide (e.1 = i)).map (·.2)
theorem entD_look {K : PySem.W.Frag} {H : Hp} {kvs : List (Key × V)} {ents : List (Int × PyData)} (h : EntD K H kvs ents) (i : Int) : match entL ents i with
    | some d => ∃ v, valV kvs (.inl i) = some v ∧ Dp K H v d
    | none => valV kvs (.inl i) = none := by
  unfold entL
  unfold EntD at h
  induction h with
  | nil => rfl
  | @cons x y l m r t ih =>
    by_cases q : y.1 = i
    · rw [List.find?_cons_of_pos (by simpa using q), valV_pos (by rw [r.1, q])]
      exact ⟨_, rfl, r.2⟩
    · rw [List.find?_cons_of_neg (by simpa using q), valV_neg (by rw [r.1]; intro z; exact q (Sum.inl.inj z))]
      exact ih
theorem entL_map {α : Type} (f : α → Int) (g : α → PyData) (l : List α) (i : Int) (a : α) (ha : a ∈ l) (hi : f a = i) (hu : ∀ b ∈ l, f b = i → b = a) : entL (l.map fun x => (f x, g x)) i = some (g a) := by
  unfold entL
  induction l with
  | nil => cases ha
  | cons b l ih =>
    rw [List.map_cons]
    by_cases q : f b = i
    · rw [List.find?_cons_of_pos (by simpa using q), hu b List.mem_cons_self q]
      rfl
    · rw [List.find?_cons_of_neg (by simpa using q)]
      refine ih ?_ fun c hc => hu c (List.mem_cons_of_mem _ hc)
      rcases List.mem_cons.mp ha with e | e
      · exact absurd (e ▸ hi) q
      · exact e
theorem entL_none {α : Type} (f : α → Int) (g : α → PyData) (l : List α) (i : Int) (hu : ∀ b ∈ l, f b ≠ i) : entL (l.map fun x => (f x, g x)) i = none := by
  unfold entL
  rw [Option.map_eq_none_iff, List.find?_eq_none]
  intro x hx
  obtain ⟨b, hb, rfl⟩ := List.mem_map.mp hx
  simpa using hu b hb
theorem waysD_at (M : Mac) {i : Nat} (h : i < M.many) : entL (waysD M) (i : Int) = some (.list ((M.ways i).map dStp)) :=
  entL_map (fun i : Nat => (i : Int)) (fun i => .list ((M.ways i).map dStp)) (List.range M.many) i i (List.mem_range.mpr h) rfl fun b _ e => by omega
section
variable {K : PySem.W.Frag} {mg : Str → Option Value} {σ : L2.St} {H : Hp} {te ty tx : TE} {M : Mac} {C : Str}
/-- fields -/
theorem evp_fld {P : V → Hp → Prop} {R : V → Hp → Prop} {f : Str} {C : Addr} (h : EvP te σ H R) (c : Cls K C) (n : NoAttr K C f) (hR : ∀ v Hs, Ex H Hs → R v Hs → ∃ a dx fs u, v = .ref a ∧ Hs a = some (.ins C dx fs) ∧ fs.lookup f = some u ∧ P u Hs) : EvP (tFld K te f) σ H P := fun Hs H1 a b Q q =>
  h Hs H1 a b _ fun v Hs2 H2 fw p => by
    obtain ⟨ad, dx, fs, u, rfl, h1, h2, h3⟩ := hR v Hs2 (a.trans fw.b) p
    exact ⟨ad, C, dx, fs, u, rfl, fw.c _ _ h1, c, n, h2, q u Hs2 H2 fw h3⟩
theorem evp_mac {v : V} {i : Nat} (hs : σ[i]? = some (some v)) (h : MacAt K M v H) : EvP (tVar i) σ H (MacAt K M) := evp_of (ev_var hs) fun _ e => h.ex e
theorem ev_many (T : G K mg) (h : EvP te σ H (MacAt K M)) : Ev (tFld K te "many") σ H (.int M.many) := ev_int (K := K) (evp_fld h (T.cl "Machine") (T.no "Machine" "many") fun v Hs _ m => by
  obtain ⟨a, dx, fs, s, kd, d, kvs, h1, h2, h3, _⟩ := m
  exact ⟨a, dx, fs, _, h1, h2, h3, .int _⟩)
theorem evd_steps (T : G K mg) (h : EvP te σ H (MacAt K M)) : EvD K (tFld K te "steps") σ H (.tuple (M.steps.map dStp)) := evp_fld h (T.cl "Machine") (T.no "Machine" "steps") fun v Hs _ m => by
  obtain ⟨a, dx, fs, s, kd, d, kvs, h1, h2, h3, ⟨h4, h5⟩, _⟩ := m
  exact ⟨a, dx, fs, _, h1, h2, h4, h5⟩
theorem evd_kinds (T : G K mg) (h : EvP te σ H (MacAt K M)) : EvD K (tFld K te "kinds") σ H (.list (M.kinds.map .str)) := evp_fld h (T.cl "Machine") (T.no "Machine" "kinds") fun v Hs _ m => by
  obtain ⟨a, dx, fs, s, kd, d, kvs, h1, h2, h3, _, ⟨h4, h5⟩, _⟩ := m
  exact ⟨a, dx, fs, _, h1, h2, h4, h5⟩
/-- d[i], d a dict from ints -/
def DictAt (K : PySem.W.Frag) (ents : List (Int × PyData)) (v : V) (H : Hp) : Prop := ∃ d kvs, v = .ref d ∧ Rd H d (.dK kvs) ∧ EntD K H kvs ents
/-- .. one that nobody walks -/
def DictX (K : PySem.W.Frag) (ents : List (Int × PyData)) (v : V) (H : Hp) : Prop := ∃ d kvs, v = .ref d ∧ H d = some (.dK kvs) ∧ EntD K H kvs ents
theorem DictX.at {K : PySem.W.Frag} {ents : List (Int × PyData)} {v : V} {H : Hp} (h : DictX K ents v H) : DictAt K ents v H := by
  obtain ⟨d, kvs, h1, h2, h3⟩ := h
  exact ⟨d, kvs, h1, .inl h2, h3⟩
theorem evp_ways (T : G K mg) (h : EvP te σ H (MacAt K M)) : EvP (tFld K te "ways") σ H (DictAt K (waysD M)) := evp_fld h (T.cl "Machine") (T.no "Machine" "ways") fun v Hs _ m => by
  obtain ⟨a, dx, fs, s, kd, d, kvs, h1, h2, h3, _, _, h8, h9, h10⟩ := m
  exact ⟨a, dx, fs, _, h1, h2, h8, d, kvs, rfl, h9, h10⟩
theorem evd_dget {ents : List (Int × PyData)} {i : Int} {d : PyData} (h : EvP te σ H (DictAt K ents)) (hi : Ev ty σ H (.int i)) (hl : entL ents i = some d) : EvD K (tDGet te ty) σ H d := fun Hs H1 a b Q q =>
  h Hs H1 a b _ fun v Hs2 H2 f p => hi H2 (a.trans (f.b.trans f.c)) _ fun H3 e3 => by
    obtain ⟨ad, kvs, rfl, h1, h2⟩ := p
    have l := entD_look h2 i
    rw [hl] at l
    obtain ⟨w, w1, w2⟩ := l
    exact ⟨ad, w, rfl, .inl ⟨kvs, .inl i, ex_rd (f.c.trans e3) h1, rfl, w1.symm⟩, q w Hs2 H3 (f.trans (Fw.skip f.c e3)) w2⟩
/-- d.get(i, x) -/
theorem evd_dget2 {ents : List (Int × PyData)} {i : Int} {d : PyData} (h : EvP te σ H (DictAt K ents)) (hi : Ev ty σ H (.int i)) (hx : EvD K tx σ H d) : EvD K (tDGet2 te ty tx) σ H ((entL ents i).getD d) := fun Hs H1 a b Q q =>
  h Hs H1 a b _ fun v Hs2 H2 f p => by
    obtain ⟨ad, kvs, rfl, h1, h2⟩ := p
    refine ⟨ad, rfl, .inl ⟨kvs, ex_rd f.c h1⟩, hi H2 (a.trans (f.b.trans f.c)) _ fun H3 e3 => hx Hs2 H3 (a.trans f.b) (f.c.trans e3) _ fun w Hs4 H4 f4 pw => ?_⟩
    have l := entD_look h2 i
    refine ⟨valV kvs (.inl i), .inl ⟨kvs, .inl i, ex_rd f4.c (ex_rd f4.b h1), rfl, rfl⟩, ?_⟩
    have fw := (f.trans (Fw.skip f.c e3)).trans f4
    cases e : entL ents i with
    | some d' =>
      rw [e] at l q
      obtain ⟨u, u1, u2⟩ := l
      rw [u1]
      exact q u Hs4 H4 fw (dp_ex f4.b u2)
    | none =>
      rw [e] at l q
      rw [show valV kvs (.inl i) = none from l]
      exact q w Hs4 H4 fw pw
/-- t[lo:hi] -/
def cutD {α : Type} (ds : List α) (lo hi : Option Int) : List α := (ds.drop (HT.sIx ds.length 0 lo)).take (HT.sIx ds.length ds.length hi - HT.sIx ds.length 0 lo)
theorem dps_cut {H : Hp} {xs : List V} {ds : List PyData} (h : DpAll K H xs ds) (lo hi : Option Int) : DpAll K H (cutV xs lo hi) (cutD ds lo hi) := by
  unfold cutV cutD
  rw [dps_len h]
  exact dps_take _ (dps_drop _ h)
theorem drop_min {α : Type} (l : List α) (k : Nat) : l.drop (min k l.length) = l.drop k := by
  by_cases h : k ≤ l.length
  · rw [Nat.min_eq_left h]
  · rw [Nat.min_eq_right (by omega), List.drop_length, List.drop_eq_nil_of_le (by omega)]
theorem cut_from {α : Type} (ds : List α) (lo : Nat) : cutD ds (some (lo : Int)) none = ds.drop lo := by
  unfold cutD
  rw [HT.sIx_nat, HT.sIx_none, drop_min]
  refine List.take_of_length_le ?_
  rw [List.length_drop]
  omega
theorem cut_to {α : Type} (ds : List α) (hi : Nat) : cutD ds none (some (hi : Int)) = ds.take hi := by
  unfold cutD
  rw [HT.sIx_nat, HT.sIx_none, List.drop_zero, Nat.sub_zero]
  by_cases h : hi ≤ ds.length
  · rw [Nat.min_eq_left h]
  · rw [Nat.min_eq_right (by omega), List.take_length, List.take_of_length_le (by omega)]
theorem evd_slT {ds : List PyData} {tl th : TO} {lo hi : Option Int} (h : EvD K te σ H (.tuple ds)) (h1 : EvO tl σ H lo) (h2 : EvO th σ H hi) : EvD K (tSl (rSlA K) te tl th) σ H (.tuple (cutD ds lo hi)) := fun Hs H1 a b Q q =>
  h Hs H1 a b _ fun v Hs2 H2 f p => h1 H2 (a.trans (f.b.trans f.c)) _ fun H3 e3 => h2 H3 ((a.trans (f.b.trans f.c)).trans e3) _ fun H4 e4 => by
    obtain ⟨p0, xs, rfl, hs, ht⟩ := dp_tup p
    have fw := f.trans (Fw.skip f.c (e3.trans e4))
    refine ⟨p0, xs, rfl, ex_t fw.c hs, fun hw => ?_, fun _ l hl => ?_⟩
    · refine q _ Hs2 H4 fw (.tup hs ?_)
      have := dps_cut ht lo hi
      unfold cutV at this
      rw [hw.1, hw.2, List.drop_zero, Nat.sub_zero, List.take_length] at this
      exact this
    · exact q _ _ _ (fw.trans (Fw.new fw.c hl)) (.tup (st_of upd_same) (dps_ex (Fw.new fw.c hl).b (dps_cut ht lo hi)))
theorem evd_slL {ds : List PyData} {tl th : TO} {lo hi : Option Int} (h : EvD K te σ H (.list ds)) (h1 : EvO tl σ H lo) (h2 : EvO th σ H hi) : EvD K (tSl (rSlL K) te tl th) σ H (.list (cutD ds lo hi)) := fun Hs H1 a b Q q =>
  h Hs H1 a b _ fun v Hs2 H2 f p => h1 H2 (a.trans (f.b.trans f.c)) _ fun H3 e3 => h2 H3 ((a.trans (f.b.trans f.c)).trans e3) _ fun H4 e4 => by
    obtain ⟨p0, xs, rfl, hs, ht⟩ := dp_lst p
    have fw := f.trans (Fw.skip f.c (e3.trans e4))
    exact ⟨p0, xs, rfl, ex_l fw.c hs, fun l hl => q _ _ _ (fw.trans (Fw.new fw.c hl)) (.lst (sq_of upd_same) (dps_ex (Fw.new fw.c hl).b (dps_cut ht lo hi)))⟩
end
/-! check_states -/
def numIn (many : Nat) : PyData → Bool
  | .int i => decide (0 ≤ i) && decide (i < many)
  | _ => false
def okStates (many : Nat) : PyData → Bool
  | .tuple ds => ds.all (numIn many) && ((ds.zip (ds.drop 1)).all fun p => match p.1, p.2 with | .int i, .int j => decide (i < j) | _, _ => false)
  | _ => false
def spStates (K : PySem.W.Frag) : Sp := fun vs H Q E => ∃ (Hs : Hp) (m x : V) (M : Mac) (d : PyData), vs = [m, x] ∧ Ex Hs H ∧ MacAt K M m Hs ∧ Dp K Hs x d ∧ (∀ ds, d = .tuple ds → ds.length ≤ 1000) ∧
  (okStates M.many d = true → ∀ H2, Ex H H2 → Q .non H2) ∧ (okStates M.many d = false → ∀ H2, Ex H H2 → E (.ref (He.ga K "BadStates")) none H2)
section
variable {P : Program} {w : World} {K : PySem.W.Frag} {mg : Str → Option Value} {base : Heap}
abbrev NST : List Str := ["machine", "states", "one", "late"]
theorem scStates : FnScope NST ["machine", "states"] (defScope sStates) := ⟨rfl, rfl, rfl, by decide +kernel, rfl, by decide +kernel, by decide +kernel⟩
theorem ok_states (T : G K mg) : Ok P w K mg base (L2.CX P w) 2 (He.ga K "check_states") ["machine", "states"] (spStates K) := by
  obtain ⟨fd, F⟩ := T.fun0 7
  obtain ⟨fdN, GN, bN, kN⟩ := ok_number (P := P) (w := w) (base := base) T
  refine ok_ofX F scStates (fun vs H Q E h => ?_) (fun _ _ _ _ _ _ us hl => match us, hl with | [_, _], _ => rfl) fun cdv A outer s H vs Q E hr h => ?_
  · obtain ⟨_, _, _, _, _, rfl, _⟩ := h
    rfl
  · obtain ⟨Hs, m, x, M, d, rfl, eH, hm, hx, hz, kQ, kE⟩ := h
    have raise : ∀ {txt : Str} {j : Nat} {p1 p2 p3 p4 : Pos}, PS (cxOf (L2.CX P w) P w K mg base NST "check_states" (defScope sStates) (He.ga K "check_states") cdv A outer s H E) (.Raise (some (.Call (.Name "BadStates" p1) [.Constant (.str txt) j p2] [] p3)) none p4) (fun _ σ H => tCons (tC (.str txt)) tNil σ H fun vs H1 => vs.length ≤ sizeLine ∧ E (.ref (He.ga K "BadStates")) none H1) := by
      intro txt j p1 p2 p3 p4
      refine ps_raise (W := fun c d _ H => E c d H) rfl (takes_of rfl rfl rfl rfl) (pmk_ownA PySem.F.excBase_ValueError T.bad.1 (T.gl "BadStates") T.bad.2.1 (raises_own T.bad.2.2.1 T.bad.2.2.2) (by rfl) (pa_cons pe_str pa_nil))
    refine ⟨_, pss_cons (ps_if (PW.pt (pw_or (pt_not (pt_val (pe_callB call_isi rfl (T.fr "isinstance") (by decide +kernel) (pa_cons (pv 1) (pa_cons (pe_bltn rfl (T.fr "tuple") (by decide +kernel) (v := .ty "tuple") rfl) pa_nil)))))
        (pw_or1 (pt_not (pt_val (pe_callB (cr_all rfl) rfl (T.fr "all") (by decide +kernel) (pa_cons (pe_lc (own := [("one", 2)]) (g := gName 2) (tt := tYes) rfl scStates.nd
          (te := tAndV (tCall (spB K (r1D K isNum)) [] E0 (tCons (tVar 2) tNil)) (tChain (rI0 fun i j => .bl (decide (i ≤ j))) (rI0 fun i j => .bl (decide (i < j))) (tC (.int 0)) (tVar 2) (tFld K (tVar 0) "many"))) (pi_tup (pv 1)) (blkOk_by (N := NST) (sc := defScope sStates) (by decide +kernel))
          (fun _ _ _ _ _ => pg_name (i := 2) scStates.nd rfl (Or.inl rfl)) (fun _ _ _ _ _ => pts_nil)
          (fun _ _ _ _ _ => pe_and (pe_call GN hr rfl (T.gl "is_number") kN bN .nil pass0 (pa_cons (pv 2) pa_nil)) (pe_one (pe_chain op_le op_lt pe_int (pv 2) (pe_fld (pv 0) rfl))))) pa_nil)))))))
        (pss_one raise) pss_nil)
      (pss_one (ps_if (pt_not (pt_val (pe_callB (cr_all rfl) rfl (T.fr "all") (by decide +kernel) (pa_cons (pe_lc (own := [("one", 2), ("late", 3)]) (g := g2 K 2 3) (tt := tYes) rfl scStates.nd
          (te := tOp (rI0 fun i j => .bl (decide (i < j))) (tVar 2) (tVar 3)) (pi_zipM rfl (T.fr "zip") (pa_cons (pv 1) (pa_cons (pe_slice sl_tupA (pv 1) (po_some pe_int) po_none) pa_nil))) (blkOk_by (N := NST) (sc := defScope sStates) (by decide +kernel))
          (fun _ _ _ _ _ => pg_tup rfl (pgs_cons (pg_name (i := 2) scStates.nd rfl (Or.inl rfl)) (pgs_cons (pg_name (i := 3) scStates.nd rfl (Or.inl rfl)) pgs_nil))) (fun _ _ _ _ _ => pts_nil)
          (fun _ _ _ _ _ => pe_cmpR op_lt (pv 2) (pv 3) (nomark _))) pa_nil)))) (pss_one raise) pss_nil)), ?_⟩
    have hx' : EvD K (tVar 1) (start NST [m, x]) Hs d := evd_var (v := x) rfl hx
    have m1 : EvP (tVar 0) (start NST [m, x]) Hs (MacAt K M) := evp_mac (v := m) rfl hm
    -- a raise
    have bad : ∀ (txt : Str) (H1 : Hp), Ex H H1 → okStates M.many d = false → (tCons (tC (.str txt)) tNil (start NST [m, x]) H1 fun vs H1 => vs.length ≤ sizeLine ∧ E (.ref (He.ga K "BadStates")) none H1) := fun txt H1 e1 hb => ⟨by show 1 ≤ sizeLine; decide, kE hb H1 e1⟩
    by_cases ht : isTupT d = true
    · obtain ⟨ds, rfl⟩ : ∃ ds, d = .tuple ds := by
        cases d <;> first | exact ⟨_, rfl⟩ | cases ht
      have key := evd_lcM (K := K) (vs := [2]) (te := tAndV (tCall (spB K (r1D K isNum)) [] E0 (tCons (tVar 2) tNil)) (tChain (rI0 fun i j => .bl (decide (i ≤ j))) (rI0 fun i j => .bl (decide (i < j))) (tC (.int 0)) (tVar 2) (tFld K (tVar 0) "many"))) ds (fun e => PyData.bool (numIn M.many e)) (wk_tup (j := 2) hx') (by have := hz ds rfl; omega) fun i e σ2 H' hi ex hS => by
        obtain ⟨u, ⟨d1, e1, p1⟩, rfl⟩ := hS
        rw [hi] at e1
        cases e1
        refine ⟨rfl, evd_bl ?_⟩
        have hm' : MacAt K M m H' := hm.ex ex
        have a1 := evb_call1 (K := K) (E := E0) (f := isNum) (evd_var (i := 2) (σ := (wipe (start NST [m, x]) [2]).set 2 (some u)) rfl p1)
        cases e with
        | int n =>
          have q1 := dp_int p1
          subst q1
          have := ev_andV a1 (b := decide (0 ≤ n) && decide (n < M.many)) fun _ => ev_chainB (r := rI0 fun i j => .bl (decide (i ≤ j))) (r' := rI0 fun i j => .bl (decide (i < j))) (ev_c (v := .int 0)) (ev_var (i := 2) (v := .int n) rfl) rv_I0 (fun _ => ev_many T (evp_mac (i := 0) (v := m) rfl hm')) fun _ => rv_I0
          exact this
        | _ => exact ev_andV a1 (b := false) fun z => nomatch z
      have em : ds.map (fun e => PyData.bool (numIn M.many e)) = (ds.map (numIn M.many)).map PyData.bool := by rw [List.map_map]; rfl
      rw [em] at key
      have t1 := et_or (et_not (et_B (ev_isi hx' (kit_tuple (.tuple ds))))) fun _ => et_not (et_B (ev_all key))
      rw [List.all_map] at t1
      refine y_if t1 eH (fun hb H1 e1 => ?_) fun hb H1 e1 => ?_
      · refine bad _ H1 e1 ?_
        have : ds.all (numIn M.many) = false := by simpa [isTupT] using hb
        show (ds.all (numIn M.many) && _) = false
        rw [this]
        rfl
      · have hall : ds.all (numIn M.many) = true := by simpa [isTupT] using hb
        have nums : ∃ ns : List Int, ds = ns.map .int := by
          clear hx kQ kE hx' key em t1 hb bad ht hz
          induction ds with
          | nil => exact ⟨[], rfl⟩
          | cons a l ih =>
            simp only [List.all_cons, Bool.and_eq_true] at hall
            obtain ⟨ns, rfl⟩ := ih hall.2
            cases a with
            | int n => exact ⟨n :: ns, rfl⟩
            | _ => exact absurd hall.1 (by simp [numIn])
        obtain ⟨ns, rfl⟩ := nums
        have k2 := evd_lcM (K := K) (vs := [2, 3]) (te := tOp (rI0 fun i j => .bl (decide (i < j))) (tVar 2) (tVar 3)) (ns.zip (ns.drop 1)) (fun p => PyData.bool (decide (p.1 < p.2)))
          (wk_zipA ns (ns.drop 1) .int .int (j := 2) (k := 3) (ead_cons (d := dSeq true (ns.map .int)) hx' (ead_cons (d := dSeq true ((ns.drop 1).map .int)) (evd_eq (evd_slT hx' (eo_some (i := 1) ev_c) eo_none) (by rw [show (1 : Int) = ((1 : Nat) : Int) from rfl, cut_from, List.map_drop]; rfl)) ead_nil))) (by have := hz _ rfl; rw [List.length_map] at this; rw [List.length_zip]; omega) fun i e σ2 H' hi ex hS => by
          obtain ⟨u, u', ⟨a1, b1, e1, p1, p2⟩, rfl⟩ := hS
          rw [hi] at e1
          cases e1
          have q1 := dp_int p1
          have q2 := dp_int p2
          subst q1 q2
          exact ⟨rfl, evd_bl (ev_op (ev_var rfl) (ev_var rfl) rv_I0)⟩
        have em2 : (ns.zip (ns.drop 1)).map (fun p => PyData.bool (decide (p.1 < p.2))) = ((ns.zip (ns.drop 1)).map fun p => decide (p.1 < p.2)).map PyData.bool := by rw [List.map_map]; rfl
        rw [em2] at k2
        have ezip : (((ns.map PyData.int).zip ((ns.map PyData.int).drop 1)).all fun p => match p.1, p.2 with | .int i, .int j => decide (i < j) | _, _ => false) = (ns.zip (ns.drop 1)).all fun p => decide (p.1 < p.2) := by
          rw [← List.map_drop, List.zip_map, List.all_map]
          rfl
        have eok : okStates M.many (.tuple (ns.map .int)) = (ns.zip (ns.drop 1)).all fun p => decide (p.1 < p.2) := by
          show ((ns.map PyData.int).all (numIn M.many) && _) = _
          rw [hall, Bool.true_and]
          exact ezip
        have t2 := et_not (et_B (ev_all k2))
        rw [List.all_map] at t2
        refine y_next ?_
        dsimp only
        refine y_if t2 (eH.trans e1) (fun hb H2 e2 => ?_) fun hb H2 e2 => ?_
        · refine bad _ H2 (e1.trans e2) ?_
          rw [eok]
          simpa using hb
        · refine kQ ?_ H2 (e1.trans e2)
          rw [eok]
          simpa using hb
    · have ht' : isTupT d = false := by simpa using ht
      have t1 := et_or (u := tNot (tB (tCB (rAll K) (tCons (tLc (iTup K (tVar 1)) (gName 2) tYes (tAndV (tCall (spB K (r1D K isNum)) [] E0 (tCons (tVar 2) tNil)) (tChain (rI0 fun i j => .bl (decide (i ≤ j))) (rI0 fun i j => .bl (decide (i < j))) (tC (.int 0)) (tVar 2) (tFld K (tVar 0) "many"))) [2]) tNil)))) (b := false) (et_not (et_B (ev_isi hx' (kit_tuple d)))) fun z => absurd z (by rw [ht']; decide)
      refine y_if t1 eH (fun hb H1 e1 => bad _ H1 e1 ?_) fun hb H1 e1 => absurd hb (by rw [ht']; decide)
      cases d <;> first | rfl | exact absurd rfl ht
end
end K02
set_option Elab.async false
set_option linter.all false
set_option maxRecDepth 100000
set_option maxHeartbeats 1000000
/-! ### runs -/
namespace K02
open PySem PySem.Spec PyProof.Rows L2 Evl
theorem wk_enum {K : PySem.W.Frag} {σ : L2.St} {H : Hp} {ta : TA} {ds : List PyData} {j k : Nat} (h : EvAD K ta σ H [.list ds]) :
    Wk (iEnum K ta) (g2 K j k) σ H ds.length (S2 j k fun i v w H2 => v = .int (i : Int) ∧ ∃ d, ds[i]? = some d ∧ Dp K H2 w d) := fun Hs H0 a0 b0 R r =>
  h Hs H0 a0 b0 _ fun vs Hs1 H1 f hp => by
    obtain ⟨x, rfl, h1⟩ := dps1 hp
    obtain ⟨a, xs, rfl, hs, ht⟩ := dp_lst h1
    refine ⟨a, xs, rfl, ex_l f.c hs, r _ Hs1 H1 f fun Hs' H' e1 e2 => ⟨⟨xs, ex_l (e1.trans e2) hs, Nat.le_of_eq (dps_len ht)⟩, fun i hi => ?_⟩⟩
    have hi' : i < xs.length := by rw [dps_len ht]; exact hi
    refine ⟨⟨xs, xs[i], ex_l (e1.trans e2) hs, by simp [hi']⟩, fun x H'' y => ?_⟩
    obtain ⟨T, x', rfl, hT, rfl, f1⟩ := y
    intro σb Q hQ
    obtain ⟨d, hd, hp⟩ := dps_get' ht (f1 xs (ex_l (e1.trans e2) hs))
    exact g2_of (st_of upd_same) (hQ _ Hs' _ (Fw.skip e2 (Ex.new hT)) ⟨_, _, ⟨rfl, d, hd, dp_ex e1 hp⟩, rfl⟩)
theorem wk_enumA {α : Type} {K : PySem.W.Frag} {σ : L2.St} {H : Hp} (as : List α) (ea : α → PyData) {ta : TA} {j k : Nat} (h : EvAD K ta σ H [.list (as.map ea)]) :
    Wk (iEnum K ta) (g2 K j k) σ H as.length (S2 j k fun i v w H2 => v = .int (i : Int) ∧ ∃ a, as[i]? = some a ∧ Dp K H2 w (ea a)) := by
  have w := wk_enum (j := j) (k := k) h
  rw [List.length_map] at w
  refine w.mono' fun i σb σ2 H2 hi s => ?_
  obtain ⟨v, w, ⟨rfl, d, hd, hp⟩, e1⟩ := s
  rw [List.getElem?_map, List.getElem?_eq_getElem hi] at hd
  cases hd
  exact ⟨_, w, ⟨rfl, as[i], List.getElem?_eq_getElem hi, hp⟩, e1⟩
/-! steps as data -/
theorem eqv_S (a b : Stp) : PyData.eqv (dStp a) (dStp b) = decide (a = b) := by
  obtain ⟨a1, a2, a3, a4⟩ := a
  obtain ⟨b1, b2, b3, b4⟩ := b
  simp only [dStp, PyData.eqv, PyData.eqvAll, Stp.mk.injEq]
  by_cases h1 : a1 = b1 <;> by_cases h2 : a2 = b2 <;> by_cases h3 : a3 = b3 <;> by_cases h4 : a4 = b4 <;> simp [h1, h2, h3, h4]
theorem depth_S (a : Stp) : (dStp a).depth = 1 := by simp [dStp, PyData.depth, PyData.depthAll]
theorem canLay_S {a : Stp} (h : a.Good) : (dStp a).canLay0 = true := by simp [dStp, PyData.canLay0, PyData.canLayAll0, h.ki, h.se]
theorem shaped_S {a : Stp} (h : a.Good) : SeqAt.shaped (dStp a) = true := by
  unfold SeqAt.shaped
  rw [canLay_S h, depth_S]
  decide
theorem canLay_Ss : ∀ {l : List Stp}, (∀ s ∈ l, s.Good) → PyData.canLayAll0 (l.map dStp) = true
  | [], _ => by simp [PyData.canLayAll0]
  | a :: l, h => by
    show PyData.canLayAll0 (dStp a :: l.map dStp) = true
    rw [PyData.canLayAll0, canLay_S (h a List.mem_cons_self), canLay_Ss fun s hs => h s (List.mem_cons_of_mem _ hs)]
    rfl
theorem depth_Ss : ∀ l : List Stp, PyData.depthAll (l.map dStp) ≤ 1
  | [] => by simp [PyData.depthAll]
  | a :: l => by
    show PyData.depthAll (dStp a :: l.map dStp) ≤ 1
    rw [PyData.depthAll, depth_S]
    exact Nat.max_le.mpr ⟨Nat.le_refl _, depth_Ss l⟩
theorem shaped_Ss {l : List Stp} (h : ∀ s ∈ l, s.Good) : SeqAt.shaped (.list (l.map dStp)) = true := by
  have h2 := depth_Ss l
  unfold SeqAt.shaped
  rw [PyData.canLay0, canLay_Ss h, PyData.depth, Bool.true_and, decide_eq_true_iff]
  omega
theorem any_eqv_S (l : List Stp) (a : Stp) : ((l.map dStp).any fun z => PyData.eqv z (dStp a)) = decide (a ∈ l) := by
  rw [List.any_map]
  rw [Bool.eq_iff_iff, List.any_eq_true, decide_eq_true_iff]
  constructor
  · rintro ⟨x, hx, e⟩
    have e' : PyData.eqv (dStp x) (dStp a) = true := e
    rw [eqv_S, decide_eq_true_iff] at e'
    exact e' ▸ hx
  · intro h
    refine ⟨a, h, ?_⟩
    show PyData.eqv (dStp a) (dStp a) = true
    rw [eqv_S]
    simp
/-- a run of the machine, from s -/
def RunOk (M : Mac) : Int → List Stp → Prop
  | _, [] => True
  | s, x :: r => (∃ i : Nat, s = (i : Int) ∧ i < M.many ∧ x ∈ M.ways i) ∧ RunOk M x.go r
def endOf : Int → List Stp → Int
  | s, [] => s
  | _, x :: r => endOf x.go r
theorem endOf_snoc : ∀ (s : Int) (r : List Stp) (x : Stp), endOf s (r ++ [x]) = x.go
  | _, [], _ => rfl
  | _, y :: r, x => endOf_snoc y.go r x
theorem runOk_app (M : Mac) : ∀ (s : Int) (r q : List Stp), RunOk M s (r ++ q) ↔ RunOk M s r ∧ RunOk M (endOf s r) q
  | s, [], q => by simp [RunOk, endOf]
  | s, x :: r, q => by
    show (_ ∧ RunOk M x.go (r ++ q)) ↔ (_ ∧ RunOk M x.go r) ∧ RunOk M (endOf x.go r) q
    rw [runOk_app M x.go r q, and_assoc]
theorem runOk_at {M : Mac} {s : Int} {r : List Stp} {i : Nat} {x : Stp} (h : RunOk M s r) (hi : r[i]? = some x) : ∃ j : Nat, endOf s (r.take i) = (j : Int) ∧ j < M.many ∧ x ∈ M.ways j := by
  have e : r = r.take i ++ (x :: r.drop (i + 1)) := by
    have := List.take_append_drop i r
    obtain ⟨h1, h2⟩ := List.getElem?_eq_some_iff.mp hi
    rw [List.drop_eq_getElem_cons h1, h2] at this
    exact this.symm
  rw [e, runOk_app] at h
  exact h.2.1
theorem endOf_take {s : Int} {r : List Stp} {i : Nat} {x : Stp} (hi : r[i]? = some x) : endOf s (r.take (i + 1)) = x.go := by
  rw [List.take_add_one, hi]
  exact endOf_snoc s _ x
section
variable {K : PySem.W.Frag} {σ : L2.St} {H : Hp} {te : TE}
theorem evd_go {x : Stp} (h : EvD K te σ H (dStp x)) : EvD K (tOp (rIxT K) te (tC (.int 3))) σ H (.int x.go) := evd_ixT (i := 3) h (ev_c (v := .int 3)) rfl
theorem evd_ki {x : Stp} (h : EvD K te σ H (dStp x)) : EvD K (tOp (rIxT K) te (tC (.int 1))) σ H (.str x.ki) := evd_ixT (i := 1) h (ev_c (v := .int 1)) rfl
theorem evd_se {x : Stp} (h : EvD K te σ H (dStp x)) : EvD K (tOp (rIxT K) te (tC (.int 2))) σ H (.str x.se) := evd_ixT (i := 2) h (ev_c (v := .int 2)) rfl
theorem evd_st {x : Stp} (h : EvD K te σ H (dStp x)) : EvD K (tOp (rIxT K) te (tC (.int 0))) σ H (.int x.st) := evd_ixT (i := 0) h (ev_c (v := .int 0)) rfl
end
theorem room_65 {k : Nat} {A : Around} (r : Room k A) : A.units + 65 < cLine := by have := r.un; omega
theorem room_1 {k : Nat} {A : Around} (r : Room k A) : A.units + 1 < cLine := by have := r.un; omega
def rLast (K : PySem.W.Frag) : List V → Hp → PyData → Prop := fun vs Hs d => ∃ (m x : V) (M : Mac) (r : List Stp), vs = [m, x] ∧ MacAt K M m Hs ∧ Dp K Hs x (.list (r.map dStp)) ∧ RunOk M 0 r ∧ r.length ≤ 1000 ∧ d = .int (endOf 0 r)
section
variable {P : Program} {w : World} {K : PySem.W.Frag} {mg : Str → Option Value} {base : Heap}
abbrev NLS : List Str := ["machine", "run", "state", "place", "step"]
theorem scLast : FnScope NLS ["machine", "run"] (defScope sLast) := ⟨rfl, rfl, rfl, by decide +kernel, rfl, by decide +kernel, by decide +kernel⟩
theorem ok_last (T : G K mg) : Ok P w K mg base CX0 1 (He.ga K "last_state") ["machine", "run"] (spD K (rLast K)) := by
  obtain ⟨fd, F⟩ := T.fun0 8
  refine ok_of F scLast (fun vs H Q E h => ?_) (fun _ _ _ _ _ _ us hl => match us, hl with | [_, _], _ => rfl) fun cdv A outer s H vs Q E hr h => ?_
  · obtain ⟨_, _, _, ⟨_, _, _, _, rfl, _⟩, _⟩ := h
    rfl
  · obtain ⟨Hs, d, eH, ⟨m, x, M, r, rfl, hm, hx, hrun, hz, rfl⟩, kQ⟩ := h
    have hu := hr.units
    refine ⟨_, pss_cons (ps_if (pt_not (pt_val (pe_callB call_isiT rfl (T.fr "isinstance") (by decide +kernel) (pa_cons (pv 1) (pa_cons (pe_tup (pa_cons (pe_bltn rfl (T.fr "list") (by decide +kernel) (v := .ty "list") rfl) (pa_cons (pe_bltn rfl (T.fr "tuple") (by decide +kernel) (v := .ty "tuple") rfl) pa_nil))) pa_nil))))) (pss_one ps_never) pss_nil)
      (pss_cons (ps_set (i := 2) scLast.nd rfl (Or.inl rfl) pe_int)
      (pss_cons (ps_for PassesOwn.never rfl (pi_enum rfl (T.fr "enumerate") (pa_cons (pv 1) pa_nil)) (pg_tup rfl (pgs_cons (pg_name (i := 3) scLast.nd rfl (Or.inl rfl)) (pgs_cons (pg_name (i := 4) scLast.nd rfl (Or.inl rfl)) pgs_nil)))
        (pss_cons (ps_if (PW.pt (pw_or (pt_not (pt_val (pe_callB call_isi rfl (T.fr "isinstance") (by decide +kernel) (pa_cons (pv 4) (pa_cons (pe_bltn rfl (T.fr "tuple") (by decide +kernel) (v := .ty "tuple") rfl) pa_nil)))))
            (pw_or1 (pt_cmpR (op_notInD (room_65 hr)) (pv 4) (pe_dget (room_1 hr) (pe_fld (pv 0) rfl) (pv 2) (fun _ _ => rfl)) rfl)))) (pss_one ps_never) pss_nil)
          (pss_one (ps_set (i := 2) scLast.nd rfl (Or.inl rfl) (pe_ix ix_tup (pv 4) pe_int (fun _ _ => rfl))))))
      (pss_one (ps_ret (pv 2))))), ?_⟩
    have hx' : EvD K (tVar 1) (start NLS [m, x]) Hs (.list (r.map dStp)) := evd_var (v := x) rfl hx
    refine y_if (et_not (et_B (ev_isiSeq hx'))) eH (fun hb H1 e1 => absurd hb (by simp [isListT])) fun hb H1 e1 => ?_
    refine y_next ?_
    dsimp only
    refine y_asg (evd_c (K := K) (.int 0)) (eH.trans e1) fun v0 Hs2 H2 f2 hv0 => ?_
    have q0 := dp_int hv0
    subst q0
    have hx2 : EvD K (tVar 1) ((start NLS [m, x]).set 2 (some (.int 0))) Hs2 (.list (r.map dStp)) := evd_var (v := x) rfl (dp_ex f2.b hx)
    refine y_for (wk_enumA r dStp (j := 3) (k := 4) (ead_cons hx2 ead_nil)) f2.c (fun i σ' Hs' H' => Ex Hs2 Hs' ∧ Ex H H' ∧ Fw Hs H Hs' H' ∧ ∃ a b, σ' = [some m, some x, some (.int (endOf 0 (r.take i))), a, b]) (fun Hs3 H3 f3 => ?_) (fun i σ' Hs' H' hi f iv σ4 Hs4 H4 f4 hS N hN => ?_) fun σ' Hs' H' f iv => ?_
    · have fw := ((Fw.skip eH e1).trans f2).trans f3
      exact ⟨f3.b, fw.a, fw, none, none, rfl⟩
    · obtain ⟨ex, eh, fw, a, b, rfl⟩ := iv
      obtain ⟨u, u', ⟨rfl, st, hst, hp⟩, rfl⟩ := hS
      obtain ⟨j, hj, hjm, hjw⟩ := runOk_at hrun hst
      have m4 : MacAt K M m Hs4 := hm.ex (f2.b.trans (ex.trans f4.b))
      have w4 := fw.trans f4
      rw [hj]
      have sv : EvD K (tVar 4) [some m, some x, some (.int (j : Int)), some (.int (i : Int)), some u'] Hs4 (dStp st) := evd_var (v := u') rfl hp
      have gd : st.Good := M.wok j st hjw
      have t1 := et_or (et_not (et_B (ev_isi sv (kit_tuple (dStp st))))) fun _ => et_test (ev_notInD sv (evd_dget (evp_ways T (evp_mac (i := 0) (v := m) rfl m4)) (ev_var (i := 2) (v := .int (j : Int)) rfl) (waysD_at M hjm)) (shaped_S gd) (shaped_Ss (M.wok j)))
      rw [any_eqv_S] at t1
      refine y_if t1 f4.c (fun hb H5 e5 => absurd hb (by simp [hjw, isTupT, dStp])) fun hb H5 e5 => ?_
      refine y_next ?_
      dsimp only
      refine y_asg (evd_go sv) (f4.c.trans e5) fun v6 Hs6 H6 f6 hv6 => ?_
      have q6 := dp_int hv6
      subst q6
      have w6 := w4.trans ((Fw.skip w4.c e5).trans f6)
      refine hN _ Hs6 H6 ((f4.m).trans ((Fw.skip f4.c e5).trans f6).m) ⟨ex.trans (f4.b.trans f6.b), w6.a, w6, some (.int (i : Int)), some u', ?_⟩
      rw [endOf_take hst]
      rfl
    · obtain ⟨ex, eh, fw, a, b, rfl⟩ := iv
      rw [List.take_length]
      exact y_ret (evd_var (i := 2) (v := .int (endOf 0 r)) rfl (.int _)) fw.c fun v Hs5 H5 f5 hv => kQ v Hs5 H5 (fw.trans f5) hv
/-! falls -/
def fallsOf (kinds : List Str) (r : List Stp) : Vec := kinds.map fun k => ((r.filter fun s => decide (s.ki = k)).length : Int)
theorem ev_eqS {σ : L2.St} {H : Hp} {ta tb : TE} {a b : Str} (ha : EvD K ta σ H (.str a)) (hb : EvD K tb σ H (.str b)) : Ev (tOp rEq ta tb) σ H (.bl (decide (a = b))) := by
  have h := ev_op (ev_str ha) (ev_str hb) (rv_eq (H := H) (x := .str a) (y := .str b) rfl)
  have e : decide (V.str a = V.str b) = decide (a = b) := by
    by_cases q : a = b
    · subst q; simp
    · rw [decide_eq_false q, decide_eq_false (fun z => q (by injection z))]
  rw [e] at h
  exact h
/-- the comprehension that counts: kinds in the slot 2, steps in the slot 3 -/
theorem evd_falls {σ : L2.St} {H : Hp} {tk tr : TE} {kinds : List Str} {r : List Stp} {j k : Nat} (hk : EvD K tk σ H (.list (kinds.map .str))) (hr : ∀ u H2, Ex H H2 → EvD K tr ((wipe σ [j]).set j (some u)) H2 (.list (r.map dStp)))
    (hl : kinds.length ≤ 1000) (hl2 : r.length ≤ 1000) (hw : ∀ u, wipe ((wipe σ [j]).set j (some u)) [j] = wipe σ [j]) (hw2 : ∀ u u', wipe ((wipe ((wipe σ [j]).set j (some u)) [k]).set k (some u')) [k] = wipe ((wipe σ [j]).set j (some u)) [k])
    (hj : ∀ u u', ((wipe ((wipe σ [j]).set j (some u)) [k]).set k (some u'))[j]? = some (some u)) (hkk : ∀ u u', ((wipe ((wipe σ [j]).set j (some u)) [k]).set k (some u'))[k]? = some (some u')) :
    EvD K (tCB (fun xs H Q => ∃ p ys, xs = [.ref p] ∧ ((SqL K H p ys ∧ ∀ l, H l = none → Q (.ref l) (upd H l (.tup ys))) ∨ (SqT K H p ys ∧ Q (.ref p) H))) (tCons (tLc (iList K tk) (gName j) tYes
      (tCB (fun xs H Q => ∃ p ys, xs = [.ref p] ∧ (SqL K H p ys ∨ SqT K H p ys) ∧ Q (.int ys.length) H) (tCons (tLc (iList K tr) (gName k) (tTest (tOp rEq (tOp (rIxT K) (tVar k) (tC (.int 1))) (tVar j))) (tC (.int 1)) [k]) tNil)) [j]) tNil)) σ H (dV (fallsOf kinds r)) := by
  refine evd_tupleOf ?_
  have e : (fallsOf kinds r).map PyData.int = kinds.map fun k => PyData.int ((r.filter fun s => decide (s.ki = k)).length : Int) := by
    unfold fallsOf
    rw [List.map_map]
    rfl
  rw [e]
  refine evd_lcM kinds _ (wk_listA kinds .str (j := j) hk) (by omega) fun i kd σ2 H2 hi e2 hS => ?_
  obtain ⟨u, ⟨a1, e1, p1⟩, rfl⟩ := hS
  rw [hi] at e1
  cases e1
  refine ⟨hw u, evd_int ?_⟩
  have inner := evd_lcA (K := K) (σ := (wipe σ [j]).set j (some u)) (H := H2) (te := tC (.int 1)) (tt := tTest (tOp rEq (tOp (rIxT K) (tVar k) (tC (.int 1))) (tVar j))) (vs := [k]) r (fun s => decide (s.ki = kd)) (fun _ => .int 1) (g := gName k)
    (wi := iList K tr) (S := S1 k fun i v H2 => ∃ a, r[i]? = some a ∧ Dp K H2 v (dStp a)) ?_ (by omega) fun i s σ3 H3 hi3 e3 hS3 => ?_
  · have := ev_lenD (t := false) inner
    rw [List.length_map] at this
    exact this
  · exact wk_listA r dStp (hr u H2 e2)
  · obtain ⟨u', ⟨a2, e4, p2⟩, rfl⟩ := hS3
    rw [hi3] at e4
    cases e4
    have q1 := dp_str p1
    exact ⟨hw2 u u', et_test (ev_eqS (evd_ki (evd_var (hkk u u') p2)) (evd_var (hj u u') (q1 ▸ .str kd))), fun _ => evd_c (.int 1)⟩
def rFalls (K : PySem.W.Frag) : List V → Hp → PyData → Prop := fun vs Hs d => ∃ (m x : V) (M : Mac) (r : List Stp), vs = [m, x] ∧ MacAt K M m Hs ∧ Dp K Hs x (.list (r.map dStp)) ∧ RunOk M 0 r ∧ r.length ≤ 1000 ∧ M.kinds.length ≤ 1000 ∧ d = dV (fallsOf M.kinds r)
abbrev NFA : List Str := ["machine", "run", "kind", "step"]
theorem scFalls : FnScope NFA ["machine", "run"] (defScope sFalls) := ⟨rfl, rfl, rfl, by decide +kernel, rfl, by decide +kernel, by decide +kernel⟩
theorem ok_falls (T : G K mg) : Ok P w K mg base CX0 2 (He.ga K "falls_of") ["machine", "run"] (spD K (rFalls K)) := by
  obtain ⟨fd, F⟩ := T.fun0 11
  obtain ⟨fdB, GB, bB, kB⟩ := ok_last (P := P) (w := w) (base := base) T
  refine ok_of F scFalls (fun vs H Q E h => ?_) (fun _ _ _ _ _ _ us hl => match us, hl with | [_, _], _ => rfl) fun cdv A outer s H vs Q E hr h => ?_
  · obtain ⟨_, _, _, ⟨_, _, _, _, rfl, _⟩, _⟩ := h
    rfl
  · obtain ⟨Hs, d, eH, ⟨m, x, M, r, rfl, hm, hx, hrun, hz, hz2, rfl⟩, kQ⟩ := h
    refine ⟨_, pss_cons (ps_expr (pe_call GB hr rfl (T.gl "last_state") kB bB .nil pass0 (pa_cons (pv 0) (pa_cons (pv 1) pa_nil))))
      (pss_one (ps_ret (pe_callTy call_tuple_of rfl (T.fr "tuple") (by decide +kernel) (pa_cons
        (pe_lc (own := [("kind", 2)]) (g := gName 2) (tt := tYes) (te := tCB (fun xs H Q => ∃ p ys, xs = [.ref p] ∧ (SqL K H p ys ∨ SqT K H p ys) ∧ Q (.int ys.length) H) (tCons (tLc (iList K (tVar 1)) (gName 3) (tTest (tOp rEq (tOp (rIxT K) (tVar 3) (tC (.int 1))) (tVar 2))) (tC (.int 1)) [3]) tNil)) rfl scFalls.nd (pi_list (pe_fld (pv 0) rfl)) (blkOk_by (N := NFA) (sc := defScope sFalls) (by decide +kernel))
          (fun _ _ _ _ _ => pg_name (i := 2) scFalls.nd rfl (Or.inr rfl)) (fun _ _ _ _ _ => pts_nil)
          (fun _ _ _ _ _ => pe_callB call_len_seq rfl (T.fr "len") (by decide +kernel) (pa_cons
            (pe_lc (own := [("step", 3)]) (g := gName 3) (tt := tTest (tOp rEq (tOp (rIxT K) (tVar 3) (tC (.int 1))) (tVar 2))) (te := tC (.int 1)) rfl scFalls.nd (pi_list (pv 1)) (blkOk_by (by rfl))
              (fun _ _ _ _ _ => pg_name (i := 3) scFalls.nd rfl (Or.inl rfl)) (fun _ _ _ _ _ => pts_one (pt_cmpR op_eq (pe_ix ix_tup (pv 3) pe_int (fun _ _ => rfl)) (pv 2) (nomark _))) (fun _ _ _ _ _ => pe_int)) pa_nil))) pa_nil)))), ?_⟩
    have hx' : EvD K (tVar 1) (start NFA [m, x]) Hs (.list (r.map dStp)) := evd_var (v := x) rfl hx
    refine y_drop (P := fun v H2 => True) (evp_call (R := fun vs H2 => DpAll K H2 (vs.drop 1) [.list (r.map dStp)] ∧ ∃ m', vs.head? = some m' ∧ MacAt K M m' H2) ?_ fun Hs2 H2 a b vs hvs Q hQ => ?_) eH fun v Hs2 H2 f2 _ => ?_
    · intro Hs2 H2 a b Q q
      exact ev_var (i := 0) (v := m) rfl H2 (a.trans b) _ fun H3 e3 => hx' Hs2 H3 a (b.trans e3) _ fun v Hs4 H4 f4 hv => q _ Hs4 H4 ((Fw.skip b e3).trans f4) ⟨.cons hv .nil, m, rfl, hm.ex (a.trans f4.b)⟩
    · obtain ⟨h1, m', h2, h3⟩ := hvs
      cases vs with
      | nil => cases h2
      | cons y vs =>
        have ey : y = m' := Option.some.inj h2
        subst ey
        obtain ⟨z, e, hz'⟩ := dps1 h1
        have e' : vs = [z] := e
        subst e'
        exact ⟨Hs2, _, b, ⟨y, z, M, r, rfl, h3, hz', hrun, hz, rfl⟩, fun v Hs3 H3 f3 _ => hQ v Hs3 H3 f3 trivial⟩
    · dsimp only
      refine y_ret (evd_falls (K := K) (σ := start NFA [m, x]) (H := Hs2) (j := 2) (k := 3) (tr := tVar 1) (evd_kinds T (evp_mac (i := 0) (v := m) rfl (hm.ex f2.b))) (fun u H3 e3 => evd_var (i := 1) (v := x) rfl (dp_ex (f2.b.trans e3) hx)) hz2 hz (fun _ => rfl) (fun _ _ => rfl) (fun _ _ => rfl) fun _ _ => rfl) f2.c fun v Hs3 H3 f3 hv => kQ v Hs3 H3 (f2.trans f3) hv
end
end K02
set_option Elab.async false
set_option linter.all false
set_option maxRecDepth 100000
set_option maxHeartbeats 1000000
/-! ### dict comprehensions with keys that are ints or texts -/
namespace K02
open PySem PySem.Spec PyProof.Rows L2 Evl
def PutKk : PutP := fun D y z H N => ∃ kvs k, y = kV k ∧ H D = some (.dK kvs) ∧ kvs.length < sizeLine ∧ N (upd H D (.dK (putK kvs k z)))
theorem putKk_ok {X : Cx} : PutOk X PutKk := by
  refine ⟨fun {pins σ H s D y z u r N Q E} I ry rz h k => ?_⟩
  obtain ⟨kvs, kk, rfl, hD, hz, n⟩ := h
  exact d_dictSet I hD hz ry rz fun s' I' => k s' _ I' n
def EntK (K : PySem.W.Frag) (H : Hp) : List (Key × V) → List (Key × PyData) → Prop := Paired fun kv e => kv.1 = e.1 ∧ Dp K H kv.2 e.2
theorem entK_ex {K : PySem.W.Frag} {H H' : Hp} (e : Ex H H') {kvs : List (Key × V)} {ents : List (Key × PyData)} (h : EntK K H kvs ents) : EntK K H' kvs ents := by
  unfold EntK at h ⊢
  induction h with
  | nil => exact .nil
  | cons r t ih => exact .cons ⟨r.1, dp_ex e r.2⟩ ih
theorem entD_of {K : PySem.W.Frag} {H : Hp} : ∀ {kvs : List (Key × V)} {ents : List (Int × PyData)}, EntK K H kvs (ents.map fun e => ((Sum.inl e.1 : Key), e.2)) → EntD K H kvs ents
  | _, [], h => by cases h; exact .nil
  | _, e :: ents, h => by
    cases h with
    | cons r t => exact .cons r (entD_of t)
theorem entK_of {K : PySem.W.Frag} {H : Hp} : ∀ {kvs : List (Key × V)} {ents : List (Int × PyData)}, EntD K H kvs ents → EntK K H kvs (ents.map fun e => ((Sum.inl e.1 : Key), e.2))
  | _, [], h => by cases h; exact .nil
  | _, e :: ents, h => by
    cases h with
    | cons r t => exact .cons r (entK_of t)
def putE (ents : List (Key × PyData)) (k : Key) (d : PyData) : List (Key × PyData) :=
  if (ents.any fun e => decide (e.1 = k)) = true then ents.map (fun e => if e.1 = k then (e.1, d) else e) else ents ++ [(k, d)]
theorem entK_any {K : PySem.W.Frag} {H : Hp} {kvs : List (Key × V)} {ents : List (Key × PyData)} (h : EntK K H kvs ents) (k : Key) : (kvs.any fun kv => decide (kv.1 = k)) = ents.any fun e => decide (e.1 = k) := by
  unfold EntK at h
  induction h with
  | nil => rfl
  | cons r t ih => rw [List.any_cons, List.any_cons, ih, r.1]
theorem entK_put {K : PySem.W.Frag} {H : Hp} {kvs : List (Key × V)} {ents : List (Key × PyData)} (h : EntK K H kvs ents) (k : Key) {v : V} {d : PyData} (hv : Dp K H v d) : EntK K H (putK kvs k v) (putE ents k d) := by
  have e := entK_any h k
  unfold putK putE
  rw [e]
  by_cases q : (ents.any fun e => decide (e.1 = k)) = true
  · rw [if_pos q, if_pos q]
    clear e q
    unfold EntK at h ⊢
    induction h with
    | nil => exact .nil
    | @cons x y l m r t ih =>
      refine .cons ?_ ih
      by_cases q : x.1 = k
      · have q' : y.1 = k := r.1 ▸ q
        dsimp only
        rw [if_pos q, if_pos q']
        exact ⟨r.1, hv⟩
      · have q' : ¬ y.1 = k := r.1 ▸ q
        dsimp only
        rw [if_neg q, if_neg q']
        exact r
  · rw [if_neg q, if_neg q]
    clear e q
    unfold EntK at h ⊢
    induction h with
    | nil => exact .cons ⟨rfl, hv⟩ .nil
    | cons r t ih => exact .cons r ih
theorem putE_keys (ents : List (Key × PyData)) (k : Key) (d : PyData) : (putE ents k d).map (·.1) = ddOn (ents.map (·.1)) k := by
  have e : (ents.any fun e => decide (e.1 = k)) = true ↔ k ∈ ents.map (·.1) := by
    rw [List.any_eq_true, List.mem_map]
    exact ⟨fun ⟨x, hx, q⟩ => ⟨x, hx, by simpa using q⟩, fun ⟨x, hx, q⟩ => ⟨x, hx, by simpa using q⟩⟩
  unfold putE ddOn
  by_cases h : (ents.any fun e => decide (e.1 = k)) = true
  · rw [if_pos h, if_pos (e.mp h), List.map_map]
    refine List.map_congr_left fun x _ => ?_
    show (if x.1 = k then (x.1, d) else x).1 = x.1
    split <;> rfl
  · rw [if_neg h, if_neg (fun z => h (e.mpr z)), List.map_append]
    rfl
def putAll {α : Type} (key : α → Key) (val : α → PyData) (as : List α) : List (Key × PyData) := as.foldl (fun acc a => putE acc (key a) (val a)) []
theorem putAll_snoc {α : Type} (key : α → Key) (val : α → PyData) (as : List α) (a : α) : putAll key val (as ++ [a]) = putE (putAll key val as) (key a) (val a) := by
  unfold putAll
  rw [List.foldl_append]
  rfl
theorem putAll_keys {α : Type} (key : α → Key) (val : α → PyData) (as : List α) : (putAll key val as).map (·.1) = dd (as.map key) := by
  have : ∀ n, (putAll key val (as.take n)).map (·.1) = dd ((as.take n).map key) := by
    intro n
    induction n with
    | zero => rfl
    | succ n ih =>
      by_cases h : n < as.length
      · rw [List.take_add_one, List.getElem?_eq_getElem h]
        show (putAll key val (as.take n ++ [as[n]])).map (·.1) = dd ((as.take n ++ [as[n]]).map key)
        rw [putAll_snoc, putE_keys, ih, List.map_append]
        exact (dd_snoc _ _).symm
      · rw [List.take_of_length_le (by omega)] at ih ⊢
        exact ih
  have := this as.length
  rw [List.take_length] at this
  exact this
theorem putAll_nodup {α : Type} (key : α → Key) (val : α → PyData) (as : List α) (h : (as.map key).Nodup) : putAll key val as = as.map fun a => (key a, val a) := by
  have : ∀ n, putAll key val (as.take n) = (as.take n).map fun a => (key a, val a) := by
    intro n
    induction n with
    | zero => rfl
    | succ n ih =>
      by_cases hn : n < as.length
      · rw [List.take_add_one, List.getElem?_eq_getElem hn]
        show putAll key val (as.take n ++ [as[n]]) = (as.take n ++ [as[n]]).map _
        rw [putAll_snoc, ih, List.map_append]
        unfold putE
        rw [if_neg]
        · rfl
        · intro z
          obtain ⟨x, hx, q⟩ := List.any_eq_true.mp z
          obtain ⟨b, hb, rfl⟩ := List.mem_map.mp hx
          obtain ⟨i, hi⟩ := List.mem_iff_getElem?.mp hb
          have hin : i < n := by
            have := (List.getElem?_eq_some_iff.mp hi).1
            rw [List.length_take] at this
            omega
          rw [List.getElem?_take_of_lt hin] at hi
          have e1 : (as.map key)[i]? = some (key b) := by rw [List.getElem?_map, hi]; rfl
          have e2 : (as.map key)[n]? = some (key as[n]) := by rw [List.getElem?_map, List.getElem?_eq_getElem hn]; rfl
          have q' : key b = key as[n] := by simpa using q
          have := (List.getElem?_inj (by rw [List.length_map]; omega) h).mp (e1.trans (by rw [q', e2]))
          omega
      · rw [List.take_of_length_le (by omega)] at ih ⊢
        exact ih
  have := this as.length
  rw [List.take_length] at this
  exact this
def DkAt (K : PySem.W.Frag) (ents : List (Key × PyData)) (v : V) (H : Hp) : Prop := ∃ d kvs, v = .ref d ∧ H d = some (.dK kvs) ∧ EntK K H kvs ents
/-- .. that may be walked -/
def DkR (K : PySem.W.Frag) (ents : List (Key × PyData)) (v : V) (H : Hp) : Prop := ∃ d kvs, v = .ref d ∧ Rd H d (.dK kvs) ∧ EntK K H kvs ents
theorem DkAt.r {K : PySem.W.Frag} {ents : List (Key × PyData)} {v : V} {H : Hp} (h : DkAt K ents v H) : DkR K ents v H := by
  obtain ⟨d, kvs, h1, h2, h3⟩ := h
  exact ⟨d, kvs, h1, .inl h2, h3⟩
theorem DkR.ex {K : PySem.W.Frag} {ents : List (Key × PyData)} {v : V} {H H' : Hp} (e : Ex H H') (h : DkR K ents v H) : DkR K ents v H' := by
  obtain ⟨d, kvs, h1, h2, h3⟩ := h
  exact ⟨d, kvs, h1, ex_rd e h2, entK_ex e h3⟩
theorem DkAt.int {K : PySem.W.Frag} {ents : List (Int × PyData)} {v : V} {H : Hp} (h : DkAt K (ents.map fun e => ((Sum.inl e.1 : Key), e.2)) v H) : DictX K ents v H := by
  obtain ⟨d, kvs, h1, h2, h3⟩ := h
  exact ⟨d, kvs, h1, h2, entD_of h3⟩
theorem DkAt.ex {K : PySem.W.Frag} {ents : List (Key × PyData)} {v : V} {H H' : Hp} (e : Ex H H') (h : DkAt K ents v H) : DkAt K ents v H' := by
  obtain ⟨d, kvs, h1, h2, h3⟩ := h
  exact ⟨d, kvs, h1, e _ _ h2, entK_ex e h3⟩
theorem DictAt.ex {K : PySem.W.Frag} {ents : List (Int × PyData)} {v : V} {H H' : Hp} (e : Ex H H') (h : DictAt K ents v H) : DictAt K ents v H' := by
  obtain ⟨d, kvs, h1, h2, h3⟩ := h
  exact ⟨d, kvs, h1, ex_rd e h2, entD_ex e h3⟩
theorem DictX.ex {K : PySem.W.Frag} {ents : List (Int × PyData)} {v : V} {H H' : Hp} (e : Ex H H') (h : DictX K ents v H) : DictX K ents v H' := by
  obtain ⟨d, kvs, h1, h2, h3⟩ := h
  exact ⟨d, kvs, h1, e _ _ h2, entD_ex e h3⟩
section
variable {K : PySem.W.Frag} {P : Program} {w : World} {σ : L2.St} {H : Hp} {ta tb te tk tv : TE}
structure BldK (K : PySem.W.Frag) (Hs1 H1 : Hp) (D : Addr) (ents : List (Key × PyData)) (Hs H' : Hp) : Prop where
  a : Ex H1 H'
  b : Ex Hs1 Hs
  c : Ex Hs H'
  d : ∀ x o, H1 x = some o → Hs1 x = none → Hs x = none
  n : Hs D = none
  l : ∃ kvs, H' D = some (.dK kvs) ∧ EntK K Hs kvs ents
theorem BldK.fw {Hs1 H1 : Hp} {D : Addr} {ents : List (Key × PyData)} {Hs H' Hs2 H2 : Hp} (B : BldK K Hs1 H1 D ents Hs H') (f : Fw Hs H' Hs2 H2) : BldK K Hs1 H1 D ents Hs2 H2 := by
  obtain ⟨xs, hx, hd⟩ := B.l
  exact ⟨B.a.trans f.a, B.b.trans f.b, f.c, fun x o h n => f.d x o (B.a x o h) (B.d x o h n), f.d D _ hx B.n, xs, f.a D _ hx, entK_ex f.b hd⟩
theorem evp_dk {α : Type} {wi : TI} {g : TG} {tt : TT} {vs : List Nat} {S : Nat → L2.St → L2.St → Hp → Prop} (as : List α) (p : α → Bool) (key : α → Key) (val : α → PyData)
    (hw : Wk wi g σ H as.length S) (hn : as.length ≤ 100000)
    (hs : ∀ i a σ2 H', as[i]? = some a → Ex H H' → S i (wipe σ vs) σ2 H' → wipe σ2 vs = wipe σ vs ∧ EvT tt σ2 H' (p a) ∧ (p a = true → Ev tk σ2 H' (kV (key a)) ∧ EvD K tv σ2 H' (val a))) :
    EvP (tDg (fun _ => .dK []) PutKk wi g tt tk tv vs) σ H (DkAt K (putAll key val (as.filter p))) := fun Hs0 H0 a0 b0 Q q =>
  hw Hs0 H0 a0 b0 _ fun J Hs1 H1 f1 hJ => fun D hD => by
    refine ⟨fun i m H' => m = as.length - i ∧ i ≤ as.length ∧ ∃ Hs, BldK K Hs1 H1 D (putAll key val ((as.take i).filter p)) Hs H', ⟨as.length, by simp, Nat.zero_le _, Hs1, Ex.new hD, Ex.refl _, f1.c.trans (Ex.new hD), fun _ _ _ n => n, fresh_back f1.c hD, [], upd_same, .nil⟩, ?_⟩
    rintro i m H' ⟨rfl, hi, Hs, B⟩
    by_cases hlt : i < as.length
    · obtain ⟨_, hgo⟩ := hJ Hs H' B.b B.c
      obtain ⟨go, hy⟩ := hgo i hlt
      have e1 : as[i]? = some as[i] := List.getElem?_eq_getElem hlt
      have et : as.take (i + 1) = as.take i ++ [as[i]] := by rw [List.take_add_one, e1]; rfl
      refine .inr ⟨go, fun H'' => i + 1 ≤ as.length ∧ ∃ Hs, BldK K Hs1 H1 D (putAll key val ((as.take (i + 1)).filter p)) Hs H'', fun H'' w => ⟨as.length - (i + 1), by omega, rfl, w⟩, fun x H'' y => ?_⟩
      refine hy x H'' y _ _ fun σ2 Hs3 H3 f3 hS => ?_
      have B3 := B.fw f3
      obtain ⟨w1, w2, w3⟩ := hs i _ σ2 Hs3 e1 ((a0.trans f1.b).trans B3.b) hS
      refine ⟨w1, w2 H3 B3.c _ fun H4 e4 => ?_⟩
      have B4 := B3.fw (Fw.skip B3.c e4)
      cases hf : p as[i] with
      | false =>
        show i + 1 ≤ as.length ∧ _
        rw [et, List.filter_append, List.filter_cons_of_neg (by rw [hf]; decide), List.filter_nil, List.append_nil]
        exact ⟨hlt, Hs3, B4⟩
      | true =>
        show tk σ2 H4 _
        obtain ⟨k1, k2⟩ := w3 hf
        refine k1 H4 B4.c _ fun H5 e5 => ?_
        have B5 := B4.fw (Fw.skip B4.c e5)
        refine k2 Hs3 H5 (Ex.refl _) B5.c _ fun v Hs6 H6 f6 hv => ?_
        have B6 := B5.fw f6
        obtain ⟨kvs, hx, hd'⟩ := B6.l
        have hlen : kvs.length ≤ i := by
          have e : kvs.length = (putAll key val ((as.take i).filter p)).length := Paired.length hd'
          have e2 := congrArg List.length (putAll_keys key val ((as.take i).filter p))
          rw [List.length_map] at e2
          rw [e, e2]
          refine Nat.le_trans (dd_len _) ?_
          rw [List.length_map]
          exact Nat.le_trans (List.length_filter_le _ _) (by rw [List.length_take]; omega)
        refine ⟨kvs, key as[i], rfl, hx, sz_lt (by omega), hlt, Hs6, ?_⟩
        rw [et, List.filter_append, List.filter_cons_of_pos (by rw [hf]), List.filter_nil, putAll_snoc]
        refine ⟨?_, B6.b, ?_, B6.d, B6.n, _, upd_same, entK_put hd' _ hv⟩
        · exact Ex.mut B6.a hD
        · exact Ex.mut B6.c B6.n
    · have ei : i = as.length := by omega
      subst ei
      rw [List.take_length] at B
      obtain ⟨xs, hx, hd'⟩ := B.l
      refine .inl ⟨(hJ Hs H' B.b B.c).1, q _ (upd Hs D (.dK xs)) H' (f1.trans ⟨B.a, B.b.trans (Ex.new B.n), fun x o e => ?_, fun x o e nn => ?_⟩) ⟨D, xs, rfl, upd_same, entK_ex (Ex.new B.n) hd'⟩⟩
      · by_cases hx' : x = D
        · subst hx'; rw [upd_same] at e; rw [← e]; exact hx
        · rw [upd_ne hx'] at e; exact B.c x o e
      · rw [upd_ne (ne_of_none e hD)]
        exact B.d x o e nn
/-- star displays -/
theorem ead_starT {tr : TA} {ds es : List PyData} (h : EvD K te σ H (.tuple ds)) (hr : EvAD K tr σ H es) : EvAD K (StX.tStar K te tr) σ H (ds ++ es) := fun Hs H1 a b Q q =>
  h Hs H1 a b _ fun v Hs2 H2 f p => by
    obtain ⟨p0, xs, rfl, hs, ht⟩ := dp_tup p
    exact ⟨p0, xs, rfl, .inl (ex_t f.c hs), hr Hs2 H2 (a.trans f.b) f.c _ fun ys Hs3 H3 f3 hy => q _ Hs3 H3 (f.trans f3) (dps_app (dps_ex f3.b ht) hy)⟩
/-- looking into a dict from texts -/
def entS (ents : List (Key × PyData)) (k : Key) : Option PyData := (ents.find? fun e => decide (e.1 = k)).map (·.2)
theorem entK_look {kvs : List (Key × V)} {ents : List (Key × PyData)} (h : EntK K H kvs ents) (k : Key) : match entS ents k with
    | some d => ∃ v, valV kvs k = some v ∧ Dp K H v d
    | none => valV kvs k = none := by
  unfold entS
  unfold EntK at h
  induction h with
  | nil => rfl
  | @cons x y l m r t ih =>
    by_cases q : y.1 = k
    · rw [List.find?_cons_of_pos (by simpa using q), valV_pos (by rw [r.1, q])]
      exact ⟨_, rfl, r.2⟩
    · rw [List.find?_cons_of_neg (by simpa using q), valV_neg (by rw [r.1]; exact q)]
      exact ih
theorem evd_dgetK {ents : List (Key × PyData)} {k : Key} {d : PyData} {ty : TE} (h : EvP te σ H (DkR K ents)) (hi : Ev ty σ H (kV k)) (hl : entS ents k = some d) : EvD K (tDGet te ty) σ H d := fun Hs H1 a b Q q =>
  h Hs H1 a b _ fun v Hs2 H2 f p => hi H2 (a.trans (f.b.trans f.c)) _ fun H3 e3 => by
    obtain ⟨ad, kvs, rfl, h1, h2⟩ := p
    have l := entK_look h2 k
    rw [hl] at l
    obtain ⟨w, w1, w2⟩ := l
    exact ⟨ad, w, rfl, .inl ⟨kvs, k, ex_rd (f.c.trans e3) h1, rfl, w1.symm⟩, q w Hs2 H3 (f.trans (Fw.skip f.c e3)) w2⟩
end
end K02
set_option Elab.async false
set_option linter.all false
set_option maxRecDepth 100000
set_option maxHeartbeats 1000000
/-! ### instances made; Adder -/
namespace K02
open PySem PySem.Spec PyProof.Rows L2 Evl
/-- an __init__: the new instance x, then the other arguments -/
def spInit (C : Addr) (R : List V → Hp → (List (Str × V) → Hp → Prop) → Prop) : Sp := fun vs H Q _ => ∃ (Hs : Hp) (x dx : Addr) (rest : List V) (Fin : List (Str × V) → Hp → Prop), vs = .ref x :: rest ∧ H x = some (.ins C dx []) ∧ Hs x = none ∧ Ex Hs H ∧ R rest Hs Fin ∧
  ∀ Hs2 H2 fs, Fm Hs H Hs2 H2 → H2 x = some (.ins C dx fs) → (∀ b o, b ≠ x → H b = some o → H2 b = some o) → Fin fs Hs2 → Q .non H2
section
variable {K : PySem.W.Frag} {mg : Str → Option Value} {σ : L2.St} {H Hs : Hp} {te tv : TE} {C x dx : Addr} {D : Ends} {P : V → Hp → Prop}
theorem evp_make {R : List V → Hp → (List (Str × V) → Hp → Prop) → Prop} {E : XK} {ta : TA} {RA : List V → Hp → Prop} {Fin : List (Str × V) → Hp → Prop} (h : EvAP ta σ H RA) (hR : ∀ vs Hs Hs', Ex H Hs → Ex Hs Hs' → RA vs Hs → R vs Hs' Fin) (mono : ∀ fs H1 H2, Ex H1 H2 → Fin fs H1 → Fin fs H2) :
    EvP (tMake C (spInit C R) [] E ta) σ H (fun v H2 => ∃ x dx fs, v = .ref x ∧ H2 x = some (.ins C dx fs) ∧ Fin fs H2) := fun Hs H1 a b Q q =>
  h Hs H1 a b _ fun vs Hs2 H2 f hv => fun x dx hx hdx ne => by
    have e1 : Ex H2 (upd (upd H2 dx (.own x)) x (.ins C dx [])) := (Ex.new hdx).trans (Ex.new (by rw [upd_ne (Ne.symm ne)]; exact hx))
    have hsx : Hs2 x = none := fresh_back f.c hx
    refine ⟨Hs2, x, dx, vs, Fin, by rw [List.append_nil], upd_same, hsx, f.c.trans e1, hR vs Hs2 Hs2 (a.trans f.b) (Ex.refl _) hv, fun Hs3 H3 fs g1 g2 g3 g4 => ⟨rfl, ?_⟩⟩
    have n3 : Hs3 x = none := g1.d x _ upd_same hsx
    refine q _ (upd Hs3 x (.ins C dx fs)) H3 (f.trans ⟨?_, g1.b.trans (Ex.new n3), ?_, ?_⟩) ⟨x, dx, fs, rfl, upd_same, mono _ _ _ (Ex.new n3) g4⟩
    · intro y o hy
      exact g3 y o (ne_of_none hy hx) (e1 y o hy)
    · intro y o hy
      by_cases q : y = x
      · subst q; rw [upd_same] at hy; rw [← hy]; exact g2
      · rw [upd_ne q] at hy; exact g1.c y o hy
    · intro y o hy n
      rw [upd_ne (ne_of_none hy hx)]
      exact g1.d y o (e1 y o hy) n
theorem y_fld {f : Str} {fs : List (Str × V)} (h : EvP tv σ Hs P) (e : Ex Hs H) (hs : σ[0]? = some (some (.ref x))) (hx : H x = some (.ins C dx fs)) (c : Cls K C) (n : NoAttr K C f) (hl : fs.length < 1000)
    (k : ∀ v Hs1 H1, Fw Hs H Hs1 H1 → P v Hs1 → D.nx σ (upd H1 x (.ins C dx (putF f v fs)))) : sFld K (tVar 0) tv f D σ H :=
  h Hs H (Ex.refl _) e _ fun v Hs1 H1 f1 p => ⟨.ref x, hs, x, C, dx, fs, rfl, f1.a _ _ hx, c, n, hl, k v Hs1 H1 f1 p⟩
end
/-! Adder -/
def spotsE (kinds : List Str) : List (Key × PyData) := kinds.zipIdx.map fun p => (Sum.inr p.1, .int (p.2 : Int))
def AddAt (K : PySem.W.Frag) (kinds : List Str) (v : V) (H : Hp) : Prop := ∃ a dx fs sp, v = .ref a ∧ H a = some (.ins (He.ga K "Adder") dx fs) ∧ fs.lookup ("spots" : Str) = some sp ∧ DkR K (spotsE kinds) sp H
theorem AddAt.ex {K : PySem.W.Frag} {kinds : List Str} {v : V} {H H' : Hp} (e : Ex H H') (h : AddAt K kinds v H) : AddAt K kinds v H' := by
  obtain ⟨a, dx, fs, sp, h1, h2, h3, h4⟩ := h
  exact ⟨a, dx, fs, sp, h1, e _ _ h2, h3, h4.ex e⟩
/-- one more of a kind -/
def bump (kinds : List Str) (v : Vec) (k : Str) : Vec := (kinds.zip v).map fun p => p.2 + if p.1 = k then 1 else 0
theorem bump_len {kinds : List Str} {v : Vec} (k : Str) (h : v.length = kinds.length) : (bump kinds v k).length = kinds.length := by
  unfold bump
  rw [List.length_map, List.length_zip, h, Nat.min_self]
theorem bump_none : ∀ {kinds : List Str} {v : Vec} {k : Str}, v.length = kinds.length → k ∉ kinds → bump kinds v k = v
  | [], [], _, _, _ => rfl
  | c :: kinds, n :: v, k, h, hk => by
    have ih := bump_none (k := k) (Nat.succ.inj h : v.length = kinds.length) fun z => hk (List.mem_cons_of_mem _ z)
    show (n + if c = k then 1 else 0) :: bump kinds v k = _
    have ne : c ≠ k := fun z => hk (by rw [z]; exact List.mem_cons_self)
    rw [ih, if_neg ne, Int.add_zero]
theorem bump_at : ∀ {kinds : List Str} {v : Vec} {k : Str} {i : Nat}, v.length = kinds.length → kinds.Nodup → kinds[i]? = some k → bump kinds v k = v.take i ++ (v[i]?.getD 0 + 1) :: v.drop (i + 1)
  | c :: kinds, n :: v, k, 0, h, hn, hi => by
    have e : c = k := by simpa using hi
    subst e
    show (n + if c = c then 1 else 0) :: bump kinds v c = _
    rw [if_pos rfl, bump_none (Nat.succ.inj h) (List.nodup_cons.mp hn).1]
    rfl
  | c :: kinds, n :: v, k, i + 1, h, hn, hi => by
    have hi' : kinds[i]? = some k := by simpa using hi
    have ih := bump_at (Nat.succ.inj h : v.length = kinds.length) (List.nodup_cons.mp hn).2 hi'
    have ne : c ≠ k := fun z => (List.nodup_cons.mp hn).1 (z ▸ List.mem_of_getElem? hi')
    show (n + if c = k then 1 else 0) :: bump kinds v k = _
    rw [if_neg ne, Int.add_zero, ih]
    rfl
def rAddI (K : PySem.W.Frag) : List V → Hp → (List (Str × V) → Hp → Prop) → Prop := fun rest Hs Fin => ∃ m M, rest = [m] ∧ MacAt K M m Hs ∧ M.kinds.Nodup ∧ M.kinds.length ≤ 1000 ∧ ∀ fs H2, (∃ sp, fs.lookup ("spots" : Str) = some sp ∧ DkAt K (spotsE M.kinds) sp H2) → Fin fs H2
def rAddC (K : PySem.W.Frag) : List V → Hp → PyData → Prop := fun vs Hs d => ∃ a x y kinds v s, vs = [a, x, y] ∧ AddAt K kinds a Hs ∧ Dp K Hs x (dV v) ∧ Dp K Hs y (dStp s) ∧ v.length = kinds.length ∧ kinds.Nodup ∧ kinds.length ≤ 1000 ∧ ("" : Str) ∉ kinds ∧ (s.ki = ("" : Str) ∨ s.ki ∈ kinds) ∧ d = dV (bump kinds v s.ki)
section
variable {P : Program} {w : World} {K : PySem.W.Frag} {mg : Str → Option Value} {base : Heap}
abbrev NAI : List Str := ["self", "machine", "spot", "kind"]
theorem scAddI : FnScope NAI ["self", "machine"] (defScope sAdderI) := ⟨rfl, rfl, rfl, by decide +kernel, rfl, by decide +kernel, by decide +kernel⟩
theorem ok_addI (T : G K mg) : Ok P w K mg base CX0 1 (He.ma K (He.ga K "Adder") "__init__") ["self", "machine"] (spInit (He.ga K "Adder") (rAddI K)) := by
  obtain ⟨fd, F⟩ := T.funM 14
  refine ok_of F scAddI (fun vs H Q E h => ?_) (fun _ _ _ _ _ _ us hl => match us, hl with | [_, _], _ => rfl) fun cdv A outer s H vs Q E hr h => ?_
  · obtain ⟨_, _, _, _, _, rfl, _, _, _, ⟨_, _, rfl, _⟩, _⟩ := h
    rfl
  · obtain ⟨Hs, x, dx, rest, Fin, rfl, hx, hsx, eH, ⟨m, M, rfl, hm, hn, hz, hF⟩, kQ⟩ := h
    refine ⟨_, pss_one (ps_fld (pv 0) (pe_dg (own := [("spot", 2), ("kind", 3)]) (O0 := fun _ => .dK []) (P := PutKk) (g := g2 K 2 3) (tt := tYes) (tk := tVar 3) (tv := tVar 2) rfl scAddI.nd (pi_enum rfl (T.fr "enumerate") (pa_cons (pe_fld (pv 1) rfl) pa_nil)) (blkOk_by (N := NAI) (sc := defScope sAdderI) (by decide +kernel))
      (fun h H hb => dk_empty h hb) (fun s H ce fp => putKk_ok) (fun _ _ _ _ _ => pg_tup rfl (pgs_cons (pg_name (i := 2) scAddI.nd rfl (Or.inl rfl)) (pgs_cons (pg_name (i := 3) scAddI.nd rfl (Or.inl rfl)) pgs_nil))) (fun _ _ _ _ _ => pts_nil) (fun _ _ _ _ _ => pv 3) (fun _ _ _ _ _ => pv 2)) rfl), ?_⟩
    have key := evp_dk (K := K) (σ := start NAI [.ref x, m]) (H := Hs) (vs := [2, 3]) (tk := tVar 3) (tv := tVar 2) (tt := tYes) M.kinds.zipIdx (fun _ => true) (fun p => Sum.inr p.1) (fun p => .int (p.2 : Int))
      ((wk_enumA M.kinds .str (j := 2) (k := 3) (ead_cons (evd_kinds T (evp_mac (i := 1) (v := m) rfl hm)) ead_nil)).cast (by rw [List.length_zipIdx])) (by rw [List.length_zipIdx]; omega) fun i p σ2 H' hi e hS => by
        obtain ⟨u, u', ⟨rfl, k, hk, hp⟩, rfl⟩ := hS
        rw [List.getElem?_zipIdx, hk] at hi
        cases hi
        have q := dp_str hp
        subst q
        refine ⟨rfl, et_yes, fun _ => ⟨ev_var rfl, evd_var (v := .int ((i : Nat) : Int)) rfl ?_⟩⟩
        rw [Nat.zero_add]
        exact .int _
    rw [List.filter_eq_self.mpr (fun _ _ => rfl), putAll_nodup _ _ _ (by
      have : (M.kinds.zipIdx.map fun p => (Sum.inr p.1 : Key)) = M.kinds.map Sum.inr := by
        rw [show (fun p : Str × Nat => (Sum.inr p.1 : Key)) = Sum.inr ∘ Prod.fst from rfl, ← List.map_map, List.zipIdx_map_fst]
      rw [this]
      exact List.Pairwise.map _ (fun a b h z => h (Sum.inr.inj z)) hn)] at key
    refine y_fld key eH rfl hx (T.cl "Adder") (T.no "Adder" "spots") (by decide) fun v Hs1 H1 f1 hv => ?_
    have n1 := f1.d x _ hx hsx
    exact kQ Hs1 _ _ (f1.m.trans (Fm.mut f1.c n1)) upd_same (fun b o hb h => by rw [upd_ne hb]; exact f1.a b o h) (hF _ _ ⟨v, rfl, hv⟩)
theorem spotsE_at {kinds : List Str} {i : Nat} {k : Str} (hn : kinds.Nodup) (h : kinds[i]? = some k) : entS (spotsE kinds) (Sum.inr k) = some (.int (i : Int)) := by
  have key : ∀ (l : List (Str × Nat)), (l.map Prod.fst).Nodup → (k, i) ∈ l → entS (l.map fun p => ((Sum.inr p.1 : Key), PyData.int (p.2 : Int))) (Sum.inr k) = some (.int (i : Int)) := by
    intro l
    induction l with
    | nil => intro _ hm; cases hm
    | cons p l ih =>
      intro hl hm
      unfold entS
      rw [List.map_cons]
      by_cases q : p.1 = k
      · rw [List.find?_cons_of_pos (by simpa using q)]
        rcases List.mem_cons.mp hm with e | e
        · rw [← e]; rfl
        · exact absurd (List.mem_map.mpr ⟨(k, i), e, rfl⟩) (q ▸ (List.nodup_cons.mp hl).1)
      · rw [List.find?_cons_of_neg (by simp [q])]
        refine ih (List.nodup_cons.mp hl).2 ?_
        rcases List.mem_cons.mp hm with e | e
        · exact absurd (by rw [← e]) q
        · exact e
  refine key _ (by rw [List.zipIdx_map_fst]; exact hn) ?_
  rw [List.mem_iff_getElem?]
  exact ⟨i, by rw [List.getElem?_zipIdx, h, Nat.zero_add]; rfl⟩
theorem ev_add1 {σ : L2.St} {H : Hp} {te : TE} {i : Int} (h : Ev te σ H (.int i)) : Ev (tOp (rI0 fun i j => .int (i + j)) te (tC (.int 1))) σ H (.int (i + 1)) := ev_op h (ev_c (v := .int 1)) rv_I0
abbrev NAC : List Str := ["self", "vector", "step", "spot"]
theorem scAddC : FnScope NAC ["self", "vector", "step"] (defScope sAdderC) := ⟨rfl, rfl, rfl, by decide +kernel, rfl, by decide +kernel, by decide +kernel⟩
theorem ok_addC (T : G K mg) : Ok P w K mg base CX0 1 (He.ma K (He.ga K "Adder") "__call__") ["self", "vector", "step"] (spD K (rAddC K)) := by
  obtain ⟨fd, F⟩ := T.funM 15
  refine ok_of F scAddC (fun vs H Q E h => ?_) (fun _ _ _ _ _ _ us hl => match us, hl with | [_, _, _], _ => rfl) fun cdv A outer s H vs Q E hr h => ?_
  · obtain ⟨_, _, _, ⟨_, _, _, _, _, _, rfl, _⟩, _⟩ := h
    rfl
  · obtain ⟨Hs, d, eH, ⟨a, x, y, kinds, v, st, rfl, ha, hx, hy, hl, hn, hz, he, hk, rfl⟩, kQ⟩ := h
    refine ⟨_, pss_cons (ps_if (pt_cmpR op_eq (pe_ix ix_tup (pv 2) pe_int (fun _ _ => rfl)) pe_str (nomark _)) (pss_one (ps_ret (pv 1))) pss_nil)
      (pss_cons (ps_set (i := 3) scAddC.nd rfl (Or.inl rfl) (pe_dget (room_1 hr) (pe_fld (pv 0) rfl) (pe_ix ix_tup (pv 2) pe_int (fun _ _ => rfl)) (fun _ _ => rfl)))
      (pss_one (ps_ret (pe_tup (StX.pa_star (pe_slice sl_tupA (pv 1) po_none (po_some (pv 3))) (pa_cons (pe_op op_add (pe_ix ix_tup (pv 1) (pv 3) (fun _ _ => rfl)) pe_int) (StX.pa_star (pe_slice sl_tupA (pv 1) (po_some (pe_op op_add (pv 3) pe_int)) po_none) pa_nil))))))), ?_⟩
    have sv : EvD K (tVar 2) (start NAC [a, x, y]) Hs (dStp st) := evd_var (v := y) rfl hy
    refine y_if (et_test (ev_eqS (evd_ki sv) (evd_c (.str "")))) eH (fun hb H1 e1 => ?_) fun hb H1 e1 => ?_
    · have e : st.ki = ("" : Str) := by simpa using hb
      refine y_ret (evd_var (i := 1) (v := x) rfl hx) (eH.trans e1) fun u Hs2 H2 f2 hu => kQ u Hs2 H2 ((Fw.skip eH e1).trans f2) ?_
      rw [e, bump_none hl he]
      exact hu
    · have ne : st.ki ≠ ("" : Str) := by simpa using hb
      have hk' : st.ki ∈ kinds := hk.resolve_left ne
      obtain ⟨i, hi⟩ := List.mem_iff_getElem?.mp hk'
      have hil : i < kinds.length := (List.getElem?_eq_some_iff.mp hi).1
      refine y_next ?_
      dsimp only
      refine y_asg (evd_dgetK (k := Sum.inr st.ki) (evp_fld (P := DkR K (spotsE kinds)) (evp_of (P := AddAt K kinds) (ev_var (i := 0) (v := a) rfl) fun _ e => ha.ex e) (T.cl "Adder") (T.no "Adder" "spots") fun v Hs _ m => by
        obtain ⟨a, dx, fs, sp, h1, h2, h3, h4⟩ := m
        exact ⟨a, dx, fs, sp, h1, h2, h3, h4⟩) (ev_str (evd_ki sv)) (spotsE_at hn hi)) (eH.trans e1) fun u Hs2 H2 f2 hu => ?_
      have q := dp_int hu
      subst q
      dsimp only
      have vv : EvD K (tVar 1) ((start NAC [a, x, y]).set 3 (some (.int (i : Int)))) Hs2 (.tuple (v.map .int)) := evd_var (i := 1) (v := x) rfl (dp_ex f2.b hx)
      have iv : Ev (tVar 3) ((start NAC [a, x, y]).set 3 (some (.int (i : Int)))) Hs2 (.int (i : Int)) := ev_var rfl
      have hvl : i < v.length := by omega
      have c1 := evd_slT vv eo_none (eo_some iv)
      have c2 := evd_slT vv (eo_some (ev_add1 iv)) eo_none
      rw [cut_to] at c1
      rw [show ((i : Int) + 1) = ((i + 1 : Nat) : Int) from rfl, cut_from] at c2
      have c3 : Ev (tOp (rI0 fun i j => .int (i + j)) (tOp (rIxT K) (tVar 1) (tVar 3)) (tC (.int 1))) ((start NAC [a, x, y]).set 3 (some (.int (i : Int)))) Hs2 (.int (v[i]?.getD 0 + 1)) :=
        ev_op (ev_int (K := K) (evd_ixT (i := i) (d := .int (v[i]?.getD 0)) vv iv (by rw [List.getElem?_map, List.getElem?_eq_getElem hvl]; rfl))) (ev_c (v := .int 1)) rv_I0
      have all := evd_tup (ead_starT c1 (ead_cons (evd_int c3) (ead_starT c2 ead_nil))) (by
        rw [List.length_append, List.length_cons, List.length_append, List.length_take, List.length_drop, List.length_map]
        simp
        omega)
      refine y_ret all f2.c fun u Hs3 H3 f3 hu => kQ u Hs3 H3 (((Fw.skip eH e1).trans f2).trans f3) ?_
      have e : dV (bump kinds v st.ki) = .tuple ((v.map PyData.int).take i ++ .int (v[i]?.getD 0 + 1) :: ((v.map PyData.int).drop (i + 1) ++ [])) := by
        rw [bump_at hl hn hi]
        unfold dV
        rw [List.map_append, List.map_cons, List.map_take, List.map_drop, List.append_nil]
      rw [e]
      exact hu
end
end K02
set_option Elab.async false
set_option linter.all false
set_option maxRecDepth 100000
set_option maxHeartbeats 1000000
/-! ### the search, in plain Lean -/
namespace K02
open PySem

/-! assoc lists -/
section
variable {κ β : Type} [DecidableEq κ]
def getA (l : List (κ × β)) (k : κ) : Option β := (l.find? fun e => decide (e.1 = k)).map (·.2)
def putA (l : List (κ × β)) (k : κ) (b : β) : List (κ × β) := if (l.any fun e => decide (e.1 = k)) = true then l.map (fun e => if e.1 = k then (e.1, b) else e) else l ++ [(k, b)]
theorem getA_nil (k : κ) : getA ([] : List (κ × β)) k = none := rfl
theorem getA_pos {e : κ × β} {l : List (κ × β)} {k : κ} (h : e.1 = k) : getA (e :: l) k = some e.2 := by simp [getA, List.find?_cons, h]
theorem getA_neg {e : κ × β} {l : List (κ × β)} {k : κ} (h : ¬ e.1 = k) : getA (e :: l) k = getA l k := by simp [getA, List.find?_cons, h]
theorem getA_any (k : κ) : ∀ l : List (κ × β), (l.any fun e => decide (e.1 = k)) = (getA l k).isSome
  | [] => rfl
  | e :: l => by
    by_cases h : e.1 = k
    · rw [getA_pos h, List.any_cons, decide_eq_true h]; rfl
    · rw [getA_neg h, List.any_cons, decide_eq_false h, Bool.false_or, getA_any k l]
theorem getA_mem {l : List (κ × β)} {k : κ} {b : β} (h : getA l k = some b) : (k, b) ∈ l := by
  induction l with
  | nil => cases h
  | cons e l ih =>
    by_cases q : e.1 = k
    · rw [getA_pos q] at h
      cases h
      rw [← q]
      exact List.mem_cons_self
    · rw [getA_neg q] at h
      exact List.mem_cons_of_mem _ (ih h)
theorem getA_of_mem {l : List (κ × β)} (hn : (l.map (·.1)).Nodup) {k : κ} {b : β} (h : (k, b) ∈ l) : getA l k = some b := by
  induction l with
  | nil => cases h
  | cons e l ih =>
    rw [List.map_cons, List.nodup_cons] at hn
    by_cases q : e.1 = k
    · rw [getA_pos q]
      rcases List.mem_cons.mp h with z | z
      · rw [← z]
      · exact absurd (List.mem_map.mpr ⟨_, z, rfl⟩) (q ▸ hn.1)
    · rw [getA_neg q]
      refine ih hn.2 ?_
      rcases List.mem_cons.mp h with z | z
      · exact absurd (by rw [← z]) q
      · exact z
theorem getA_map (k j : κ) (b : β) : ∀ l : List (κ × β), getA (l.map fun e => if e.1 = k then (e.1, b) else e) j = (getA l j).map fun x => if j = k then b else x
  | [] => rfl
  | e :: l => by
    rw [List.map_cons]
    by_cases h : e.1 = j
    · rw [getA_pos h]
      by_cases q : e.1 = k
      · rw [if_pos q, getA_pos (by exact h)]
        show some b = some (if j = k then b else e.2)
        rw [if_pos (h ▸ q)]
      · rw [if_neg q, getA_pos h]
        show some e.2 = some (if j = k then b else e.2)
        rw [if_neg (h ▸ q)]
    · rw [getA_neg h, getA_neg, getA_map k j b l]
      split
      · exact h
      · exact h
theorem getA_snoc (k j : κ) (b : β) : ∀ l : List (κ × β), getA l k = none → getA (l ++ [(k, b)]) j = if j = k then some b else getA l j
  | [], _ => by
    by_cases h : j = k
    · rw [if_pos h, List.nil_append, getA_pos (by exact h.symm)]
    · rw [if_neg h, List.nil_append, getA_neg (by exact fun z => h z.symm)]
  | e :: l, hn => by
    have ne : ¬ e.1 = k := fun z => by rw [getA_pos z] at hn; cases hn
    rw [getA_neg ne] at hn
    rw [List.cons_append]
    by_cases h : e.1 = j
    · rw [getA_pos h, getA_pos h, if_neg (fun z => ne (h.trans z))]
    · rw [getA_neg h, getA_neg h, getA_snoc k j b l hn]
theorem getA_put (l : List (κ × β)) (k j : κ) (b : β) : getA (putA l k b) j = if j = k then some b else getA l j := by
  unfold putA
  rw [getA_any]
  by_cases h : (getA l k).isSome = true
  · rw [if_pos h, getA_map]
    by_cases q : j = k
    · rw [if_pos q, q]
      cases g : getA l k with
      | none => rw [g] at h; cases h
      | some x => simp
    · rw [if_neg q]
      cases getA l j with
      | none => rfl
      | some x => simp [q]
  · rw [if_neg h]
    refine getA_snoc k j b l ?_
    cases g : getA l k with
    | none => rfl
    | some x => rw [g] at h; exact absurd rfl h
theorem putA_keys (l : List (κ × β)) (k : κ) (b : β) : (putA l k b).map (·.1) = ddOn (l.map (·.1)) k := by
  unfold putA ddOn
  have e : (l.any fun e => decide (e.1 = k)) = true ↔ k ∈ l.map (·.1) := by
    rw [List.any_eq_true, List.mem_map]
    exact ⟨fun ⟨x, hx, q⟩ => ⟨x, hx, by simpa using q⟩, fun ⟨x, hx, q⟩ => ⟨x, hx, by simpa using q⟩⟩
  by_cases h : (l.any fun e => decide (e.1 = k)) = true
  · rw [if_pos h, if_pos (e.mp h), List.map_map]
    refine List.map_congr_left fun x _ => ?_
    show (if x.1 = k then (x.1, b) else x).1 = x.1
    split <;> rfl
  · rw [if_neg h, if_neg (fun z => h (e.mpr z)), List.map_append]
    rfl
theorem getA_key {l : List (κ × β)} {k : κ} : (getA l k).isSome = true ↔ k ∈ l.map (·.1) := by
  rw [← getA_any, List.any_eq_true, List.mem_map]
  exact ⟨fun ⟨x, hx, q⟩ => ⟨x, hx, by simpa using q⟩, fun ⟨x, hx, q⟩ => ⟨x, hx, by simpa using q⟩⟩
end

/-! below -/
theorem below_refl : ∀ v : Vec, below v v = true
  | [] => rfl
  | a :: v => by
    show (decide (a ≤ a) && below v v) = true
    rw [below_refl v]
    simp
theorem below_trans : ∀ {u v w : Vec}, u.length = v.length → v.length = w.length → below u v = true → below v w = true → below u w = true
  | [], [], [], _, _, _, _ => rfl
  | a :: u, b :: v, c :: w, h1, h2, q1, q2 => by
    have q1' : (decide (a ≤ b) && below u v) = true := q1
    have q2' : (decide (b ≤ c) && below v w) = true := q2
    rw [Bool.and_eq_true, decide_eq_true_iff] at q1' q2'
    show (decide (a ≤ c) && below u w) = true
    rw [Bool.and_eq_true, decide_eq_true_iff]
    exact ⟨by omega, below_trans (Nat.succ.inj h1) (Nat.succ.inj h2) q1'.2 q2'.2⟩
theorem below_antisymm : ∀ {u v : Vec}, u.length = v.length → below u v = true → below v u = true → u = v
  | [], [], _, _, _ => rfl
  | a :: u, b :: v, h1, q1, q2 => by
    have q1' : (decide (a ≤ b) && below u v) = true := q1
    have q2' : (decide (b ≤ a) && below v u) = true := q2
    rw [Bool.and_eq_true, decide_eq_true_iff] at q1' q2'
    rw [below_antisymm (Nat.succ.inj h1) q1'.2 q2'.2, show a = b by omega]
theorem below_iff : ∀ {u v : Vec}, u.length = v.length → (below u v = true ↔ ∀ (i : Nat) (a b : Int), u[i]? = some a → v[i]? = some b → a ≤ b)
  | [], [], _ => ⟨fun _ i a b h => by simp at h, fun _ => rfl⟩
  | a :: u, b :: v, h1 => by
    show (decide (a ≤ b) && below u v) = true ↔ _
    rw [Bool.and_eq_true, decide_eq_true_iff, below_iff (Nat.succ.inj h1)]
    constructor
    · rintro ⟨h2, h3⟩ i x y hx hy
      cases i with
      | zero => simp at hx hy; omega
      | succ i => exact h3 i x y (by simpa using hx) (by simpa using hy)
    · intro h
      exact ⟨h 0 a b rfl rfl, fun i x y hx hy => h (i + 1) x y (by simpa using hx) (by simpa using hy)⟩

/-! falls of a run -/
theorem fallsOf_len (kinds : List Str) (r : List Stp) : (fallsOf kinds r).length = kinds.length := by unfold fallsOf; rw [List.length_map]
theorem fallsOf_snoc (kinds : List Str) (r : List Stp) (x : Stp) : fallsOf kinds (r ++ [x]) = bump kinds (fallsOf kinds r) x.ki := by
  unfold fallsOf bump
  induction kinds with
  | nil => rfl
  | cons k ks ih =>
    rw [List.map_cons, List.map_cons, List.zip_cons_cons, List.map_cons, ih]
    refine congrArg (· :: _) ?_
    rw [List.filter_append, List.length_append]
    by_cases h : x.ki = k
    · rw [List.filter_cons_of_pos (by simpa using h), if_pos h.symm]
      simp
    · rw [List.filter_cons_of_neg (by simpa using h), if_neg (fun z => h z.symm)]
      simp
def zeroV (kinds : List Str) : Vec := List.replicate kinds.length 0
theorem fallsOf_nil (kinds : List Str) : fallsOf kinds [] = zeroV kinds := by
  unfold fallsOf zeroV
  induction kinds with
  | nil => rfl
  | cons k ks ih =>
    rw [List.map_cons, ih, List.length_cons, List.replicate_succ]
    rfl
theorem fallsOf_mono (kinds : List Str) (r q : List Stp) : below (fallsOf kinds r) (fallsOf kinds (r ++ q)) = true := by
  unfold fallsOf
  induction kinds with
  | nil => rfl
  | cons k ks ih =>
    rw [List.map_cons, List.map_cons]
    show (decide _ && below _ _) = true
    rw [ih, List.filter_append, List.length_append]
    simp
    omega
theorem fallsOf_le (kinds : List Str) (r : List Stp) {n : Int} (h : n ∈ fallsOf kinds r) : 0 ≤ n ∧ n ≤ r.length := by
  obtain ⟨k, _, rfl⟩ := List.mem_map.mp h
  have := List.length_filter_le (fun s : Stp => decide (s.ki = k)) r
  omega
theorem bump_mono : ∀ {kinds : List Str} {u v : Vec} (k : Str), u.length = kinds.length → v.length = kinds.length → below u v = true → below (bump kinds u k) (bump kinds v k) = true
  | [], [], [], _, _, _, _ => rfl
  | c :: kinds, a :: u, b :: v, k, h1, h2, q => by
    have q' : (decide (a ≤ b) && below u v) = true := q
    rw [Bool.and_eq_true, decide_eq_true_iff] at q'
    show (decide (a + _ ≤ b + _) && below (bump kinds u k) (bump kinds v k)) = true
    rw [bump_mono k (Nat.succ.inj h1) (Nat.succ.inj h2) q'.2, Bool.and_true, decide_eq_true_iff]
    dsimp only
    omega
theorem bump_up : ∀ {kinds : List Str} {v : Vec} (k : Str), v.length = kinds.length → below v (bump kinds v k) = true
  | [], [], _, _ => rfl
  | c :: kinds, a :: v, k, h => by
    show (decide (a ≤ a + _) && below v (bump kinds v k)) = true
    rw [bump_up k (Nat.succ.inj h), Bool.and_true, decide_eq_true_iff]
    dsimp only
    split <;> omega

/-! the search's state -/
structure WS where
  costs : List (Int × List Vec)
  orig : List ((Int × Vec) × Option (Int × Vec × Stp))
  rest : List (Int × Vec)
def heldC (costs : List (Int × List Vec)) (s : Int) : List Vec := (getA costs s).getD []
def WS.held (W : WS) (s : Int) : List Vec := heldC W.costs s
def setd (costs : List (Int × List Vec)) (s : Int) : List (Int × List Vec) := if (getA costs s).isSome = true then costs else putA costs s []
def refused (lims : List (Option Int)) (held : List Vec) (v : Vec) : Bool := !belowO v lims || held.any fun o => below o v
def offerW (lims : List (Option Int)) (W : WS) (s : Int) (v : Vec) (og : Option (Int × Vec × Stp)) : WS :=
  if refused lims (W.held s) v = true then { W with costs := setd W.costs s }
  else ⟨putA (setd W.costs s) s ((W.held s).filter (fun o => !below v o) ++ [v]), putA W.orig (s, v) og, W.rest ++ [(s, v)]⟩
theorem setd_held (costs : List (Int × List Vec)) (s t : Int) : heldC (setd costs s) t = heldC costs t := by
  unfold setd heldC
  by_cases h : (getA costs s).isSome = true
  · rw [if_pos h]
  · rw [if_neg h, getA_put]
    by_cases q : t = s
    · rw [if_pos q, q]
      cases g : getA costs s with
      | none => rfl
      | some x => rw [g] at h; exact absurd rfl h
    · rw [if_neg q]
theorem setd_keys (costs : List (Int × List Vec)) (s : Int) : (setd costs s).map (·.1) = ddOn (costs.map (·.1)) s := by
  unfold setd
  by_cases h : (getA costs s).isSome = true
  · rw [if_pos h]
    unfold ddOn
    rw [if_pos (getA_key.mp h)]
  · rw [if_neg h, putA_keys]
/-- the chain of origins, last step first -/
def ChainOf (orig : List ((Int × Vec) × Option (Int × Vec × Stp))) : Int → Vec → List Stp → Prop
  | s, v, [] => getA orig (s, v) = some none
  | s, v, st :: rr => ∃ s0 v0, getA orig (s, v) = some (some (s0, v0, st)) ∧ ChainOf orig s0 v0 rr
def statesOf (r : List Stp) : List Int := 0 :: r.map (·.go)
/-- how a pair came about -/
structure Came (M : Mac) (W : WS) (s : Int) (v : Vec) (r : List Stp) : Prop where
  run : RunOk M 0 r
  fin : endOf 0 r = s
  falls : fallsOf M.kinds r = v
  simp : (statesOf r).Nodup
  ins : ∀ t ∈ statesOf r, ∃ i : Nat, t = (i : Int) ∧ i < M.many
  pre : ∀ k, k ≤ r.length → (endOf 0 (r.take k), fallsOf M.kinds (r.take k)) ∈ W.rest
  chain : ChainOf W.orig s v r.reverse
structure WInv (M : Mac) (lims : List (Option Int)) (W : WS) (done : Nat) : Prop where
  nd : (W.costs.map (·.1)).Nodup
  keys : ∀ s ∈ W.costs.map (·.1), ∃ i : Nat, s = (i : Int) ∧ i < M.many
  hr : ∀ s v, v ∈ W.held s → (s, v) ∈ W.rest
  dom : ∀ s v, (s, v) ∈ W.rest → ∃ u ∈ W.held s, below u v = true
  anti : ∀ s, (W.held s).Pairwise fun a b => below a b = false ∧ below b a = false
  rnd : W.rest.Nodup
  lens : ∀ s v, (s, v) ∈ W.rest → v.length = M.kinds.length
  lim : ∀ s v, (s, v) ∈ W.rest → belowO v lims = true
  came : ∀ s v, (s, v) ∈ W.rest → ∃ r, Came M W s v r
  ok : W.orig.map (·.1) = W.rest
  closed : ∀ i, i < done → ∀ (s : Int) (v : Vec), W.rest[i]? = some (s, v) → v ∈ W.held s → ∀ j : Nat, s = (j : Int) → ∀ st ∈ M.ways j, belowO (bump M.kinds v st.ki) lims = true → ∃ u ∈ W.held st.go, below u (bump M.kinds v st.ki) = true

theorem len_bump {M : Mac} {v : Vec} (k : Str) (h : v.length = M.kinds.length) : (bump M.kinds v k).length = M.kinds.length := bump_len k h
/-- the held ones behind an offer -/
theorem offer_held {lims : List (Option Int)} {W : WS} {s : Int} {v : Vec} {og : Option (Int × Vec × Stp)} (h : refused lims (W.held s) v = false) (t : Int) :
    (offerW lims W s v og).held t = if t = s then (W.held s).filter (fun o => !below v o) ++ [v] else W.held t := by
  unfold offerW
  rw [if_neg (by rw [h]; decide)]
  show heldC (putA (setd W.costs s) s _) t = _
  unfold heldC
  rw [getA_put]
  by_cases q : t = s
  · rw [if_pos q, if_pos q]; rfl
  · rw [if_neg q, if_neg q]
    exact setd_held W.costs s t
theorem offer_no {lims : List (Option Int)} {W : WS} {s : Int} {v : Vec} {og : Option (Int × Vec × Stp)} (h : refused lims (W.held s) v = true) (t : Int) : (offerW lims W s v og).held t = W.held t := by
  unfold offerW
  rw [if_pos h]
  exact setd_held W.costs s t
/-- what is above a held one stays so -/
theorem offer_keeps {lims : List (Option Int)} {W : WS} {s : Int} {v : Vec} {og : Option (Int × Vec × Stp)} {n : Nat} (hv : v.length = n) (hl : ∀ t, ∀ u ∈ W.held t, u.length = n) {t : Int} {w : Vec} (hw : w.length = n) (h : ∃ u ∈ W.held t, below u w = true) : ∃ u ∈ (offerW lims W s v og).held t, below u w = true := by
  obtain ⟨u, hu, hb⟩ := h
  by_cases hr : refused lims (W.held s) v = true
  · rw [offer_no hr]
    exact ⟨u, hu, hb⟩
  · rw [offer_held (by simpa using hr)]
    by_cases q : t = s
    · rw [if_pos q]
      subst q
      by_cases z : below v u = true
      · exact ⟨v, by simp, below_trans (hv.trans (hl t u hu).symm) ((hl t u hu).trans hw.symm) z hb⟩
      · exact ⟨u, List.mem_append_left _ (List.mem_filter.mpr ⟨hu, by simpa using z⟩), hb⟩
    · rw [if_neg q]
      exact ⟨u, hu, hb⟩
theorem chainOf_put {orig : List ((Int × Vec) × Option (Int × Vec × Stp))} {p : Int × Vec} {og : Option (Int × Vec × Stp)} (hp : getA orig p = none) : ∀ {s : Int} {v : Vec} {rr : List Stp}, ChainOf orig s v rr → ChainOf (putA orig p og) s v rr
  | s, v, [], h => by
    have h' : getA orig (s, v) = some none := h
    show getA (putA orig p og) (s, v) = some none
    rw [getA_put, if_neg (fun z => by rw [← z, h'] at hp; cases hp)]
    exact h'
  | s, v, st :: rr, h => by
    obtain ⟨s0, v0, h1, h2⟩ := h
    refine ⟨s0, v0, ?_, chainOf_put hp h2⟩
    rw [getA_put, if_neg (fun z => by rw [← z, h1] at hp; cases hp)]
    exact h1
theorem WInv.hlen {M : Mac} {lims : List (Option Int)} {W : WS} {done : Nat} (I : WInv M lims W done) : ∀ t, ∀ u ∈ W.held t, u.length = M.kinds.length := fun t u hu => I.lens t u (I.hr t u hu)
/-- an offer -/
theorem offer_inv {M : Mac} {lims : List (Option Int)} {W : WS} {done : Nat} {s : Int} {v : Vec} {og : Option (Int × Vec × Stp)} (I : WInv M lims W done) (hs : ∃ i : Nat, s = (i : Int) ∧ i < M.many) (hl : v.length = M.kinds.length)
    (hd : done ≤ W.rest.length)
    (hc : refused lims (W.held s) v = false → ∃ r, RunOk M 0 r ∧ endOf 0 r = s ∧ fallsOf M.kinds r = v ∧ (statesOf r).Nodup ∧ (∀ t ∈ statesOf r, ∃ i : Nat, t = (i : Int) ∧ i < M.many) ∧ (∀ k, k < r.length → (endOf 0 (r.take k), fallsOf M.kinds (r.take k)) ∈ W.rest) ∧
      ((r = [] ∧ og = none) ∨ ∃ r0 st s0 v0, r = r0 ++ [st] ∧ og = some (s0, v0, st) ∧ ChainOf W.orig s0 v0 r0.reverse)) :
    WInv M lims (offerW lims W s v og) done ∧ (belowO v lims = true → ∃ u ∈ (offerW lims W s v og).held s, below u v = true) ∧ done ≤ (offerW lims W s v og).rest.length := by
  by_cases hr : refused lims (W.held s) v = true
  · have e : offerW lims W s v og = { W with costs := setd W.costs s } := by unfold offerW; rw [if_pos hr]
    have eh : ∀ t, (offerW lims W s v og).held t = W.held t := fun t => offer_no hr t
    have er : (offerW lims W s v og).rest = W.rest := by rw [e]
    have eo : (offerW lims W s v og).orig = W.orig := by rw [e]
    have ec : (offerW lims W s v og).costs.map (·.1) = ddOn (W.costs.map (·.1)) s := by rw [e]; exact setd_keys _ _
    refine ⟨⟨by rw [ec]; exact ddOn_nodup I.nd, fun t ht => ?_, fun t u hu => ?_, fun t u hu => ?_, fun t => by rw [eh]; exact I.anti t, by rw [er]; exact I.rnd, fun t u hu => I.lens t u (by rw [← er]; exact hu), fun t u hu => I.lim t u (by rw [← er]; exact hu), fun t u hu => ?_, by rw [eo, er]; exact I.ok, fun i hi t u hu hh => ?_⟩, fun hb => ?_, by rw [er]; exact hd⟩
    · rw [ec, ddOn_mem] at ht
      rcases ht with ht | ht
      · exact I.keys t ht
      · rw [ht]; exact hs
    · rw [eh] at hu; rw [er]; exact I.hr t u hu
    · rw [er] at hu; rw [eh]; exact I.dom t u hu
    · rw [er] at hu
      obtain ⟨r, c⟩ := I.came t u hu
      exact ⟨r, c.run, c.fin, c.falls, c.simp, c.ins, by rw [er]; exact c.pre, by rw [eo]; exact c.chain⟩
    · rw [er] at hu; rw [eh] at hh
      intro j hj st hst hb
      rw [eh]
      exact I.closed i hi t u hu hh j hj st hst hb
    · rw [eh]
      unfold refused at hr
      rw [hb, Bool.not_true, Bool.false_or, List.any_eq_true] at hr
      exact hr
  · have hr' : refused lims (W.held s) v = false := by simpa using hr
    obtain ⟨r, c1, c2, c3, c4, c5, c6, c7⟩ := hc hr'
    have hno : ∀ u ∈ W.held s, below u v = false := fun u hu => by
      unfold refused at hr'
      rw [Bool.or_eq_false_iff] at hr'
      simpa using List.any_eq_false.mp hr'.2 u hu
    have hlim : belowO v lims = true := by
      unfold refused at hr'
      rw [Bool.or_eq_false_iff] at hr'
      simpa using hr'.1
    have hnew : (s, v) ∉ W.rest := fun z => by
      obtain ⟨u, hu, hb⟩ := I.dom s v z
      rw [hno u hu] at hb
      cases hb
    have e : offerW lims W s v og = ⟨putA (setd W.costs s) s ((W.held s).filter (fun o => !below v o) ++ [v]), putA W.orig (s, v) og, W.rest ++ [(s, v)]⟩ := by unfold offerW; rw [if_neg hr]
    have eh : ∀ t, (offerW lims W s v og).held t = if t = s then (W.held s).filter (fun o => !below v o) ++ [v] else W.held t := fun t => offer_held hr' t
    have er : (offerW lims W s v og).rest = W.rest ++ [(s, v)] := by rw [e]
    have eo : (offerW lims W s v og).orig = putA W.orig (s, v) og := by rw [e]
    have ec : (offerW lims W s v og).costs.map (·.1) = ddOn (W.costs.map (·.1)) s := by
      rw [e]
      show (putA (setd W.costs s) s _).map (·.1) = _
      rw [putA_keys, setd_keys]
      unfold ddOn
      by_cases q : s ∈ W.costs.map (·.1)
      · rw [if_pos q, if_pos q]
      · rw [if_neg q, if_pos (by simp)]
    have onone : getA W.orig (s, v) = none := by
      cases g : getA W.orig (s, v) with
      | none => rfl
      | some x => exact absurd (I.ok ▸ List.mem_map.mpr ⟨_, getA_mem g, rfl⟩) hnew
    have keeps : ∀ {t : Int} {w : Vec}, w.length = M.kinds.length → (∃ u ∈ W.held t, below u w = true) → ∃ u ∈ (offerW lims W s v og).held t, below u w = true := fun hw h => offer_keeps hl I.hlen hw h
    have hself : ∃ u ∈ (offerW lims W s v og).held s, below u v = true := ⟨v, by rw [eh, if_pos rfl]; simp, below_refl v⟩
    refine ⟨⟨by rw [ec]; exact ddOn_nodup I.nd, fun t ht => ?_, fun t u hu => ?_, fun t u hu => ?_, fun t => ?_, ?_, fun t u hu => ?_, fun t u hu => ?_, fun t u hu => ?_, ?_, fun i hi t u hu hh => ?_⟩, fun _ => hself, by rw [er, List.length_append]; omega⟩
    · rw [ec, ddOn_mem] at ht
      rcases ht with ht | ht
      · exact I.keys t ht
      · rw [ht]; exact hs
    · rw [eh] at hu
      rw [er]
      by_cases q : t = s
      · rw [if_pos q] at hu
        rcases List.mem_append.mp hu with z | z
        · exact List.mem_append_left _ (q ▸ I.hr s u (List.mem_filter.mp z).1)
        · rw [List.mem_singleton.mp z, q]
          exact List.mem_append_right _ (by simp)
      · rw [if_neg q] at hu
        exact List.mem_append_left _ (I.hr t u hu)
    · rw [er] at hu
      rcases List.mem_append.mp hu with z | z
      · exact keeps (I.lens t u z) (I.dom t u z)
      · have z' := List.mem_singleton.mp z
        cases z'
        exact hself
    · rw [eh]
      by_cases q : t = s
      · rw [if_pos q, List.pairwise_append]
        refine ⟨(I.anti s).filter _, List.pairwise_singleton _ _, fun a ha b hb => ?_⟩
        rw [List.mem_singleton.mp hb]
        obtain ⟨h1, h2⟩ := List.mem_filter.mp ha
        exact ⟨hno a h1, by simpa using h2⟩
      · rw [if_neg q]
        exact I.anti t
    · rw [er, List.nodup_append]
      exact ⟨I.rnd, by simp, fun a ha b hb z => hnew (by rw [List.mem_singleton] at hb; rw [← hb, ← z]; exact ha)⟩
    · rw [er] at hu
      rcases List.mem_append.mp hu with z | z
      · exact I.lens t u z
      · cases List.mem_singleton.mp z
        exact hl
    · rw [er] at hu
      rcases List.mem_append.mp hu with z | z
      · exact I.lim t u z
      · cases List.mem_singleton.mp z
        exact hlim
    · rw [er] at hu
      rcases List.mem_append.mp hu with z | z
      · obtain ⟨r', c⟩ := I.came t u z
        exact ⟨r', c.run, c.fin, c.falls, c.simp, c.ins, fun k hk => by rw [er]; exact List.mem_append_left _ (c.pre k hk), by rw [eo]; exact chainOf_put onone c.chain⟩
      · cases List.mem_singleton.mp z
        refine ⟨r, c1, c2, c3, c4, c5, fun k hk => ?_, ?_⟩
        · rw [er]
          by_cases q : k < r.length
          · exact List.mem_append_left _ (c6 k q)
          · rw [List.take_of_length_le (by omega), c2, c3]
            exact List.mem_append_right _ (by simp)
        · rw [eo]
          rcases c7 with ⟨rfl, rfl⟩ | ⟨r0, st, s0, v0, rfl, rfl, hch⟩
          · show getA (putA W.orig (s, v) none) (s, v) = some none
            rw [getA_put, if_pos rfl]
          · rw [List.reverse_append]
            refine ⟨s0, v0, ?_, chainOf_put onone hch⟩
            rw [getA_put, if_pos rfl]
    · rw [eo, er, putA_keys]
      unfold ddOn
      rw [if_neg (by rw [I.ok]; exact hnew), I.ok]
    · rw [er, List.getElem?_append_left (by omega)] at hu
      have hu' := List.mem_of_getElem? hu
      have hh' : u ∈ W.held t := by
        rw [eh] at hh
        by_cases q : t = s
        · rw [if_pos q] at hh
          rcases List.mem_append.mp hh with z | z
          · exact q ▸ (List.mem_filter.mp z).1
          · rw [List.mem_singleton.mp z, q] at hu'
            exact absurd hu' hnew
        · rw [if_neg q] at hh
          exact hh
      intro j hj st hst hb
      exact keeps (len_bump _ (I.lens t u hu')) (I.closed i hi t u hu hh' j hj st hst hb)
end K02
set_option Elab.async false
set_option linter.all false
set_option maxRecDepth 100000
set_option maxHeartbeats 1000000
/-! ### the search, in plain Lean: the turns, the end -/
namespace K02
open PySem
/-- what Machine makes sure of -/
structure MOk (M : Mac) : Prop where
  pos : 0 < M.many
  small : M.many ≤ 4
  few : M.kinds.length ≤ 3
  go : ∀ j, ∀ st ∈ M.ways j, ∃ i : Nat, st.go = (i : Int) ∧ i < M.many
  knd : M.kinds.Nodup
  kne : ("" : Str) ∉ M.kinds
  ki : ∀ j, ∀ st ∈ M.ways j, st.ki = ("" : Str) ∨ st.ki ∈ M.kinds
  wst : ∀ j : Nat, j < M.many → ∀ st, st ∈ M.ways j ↔ st ∈ M.steps ∧ st.st = (j : Int)
  sst : ∀ st ∈ M.steps, ∃ i : Nat, st.st = (i : Int) ∧ i < M.many
  wlen : ∀ j, (M.ways j).length ≤ 100
  slen : M.steps.length ≤ 100
theorem state_at : ∀ (s : Int) (r : List Stp) (t : Int), t ∈ s :: r.map (·.go) → ∃ k, k ≤ r.length ∧ endOf s (r.take k) = t
  | s, [], t, h => ⟨0, Nat.le_refl _, by simp at h; exact h.symm⟩
  | s, x :: r, t, h => by
    rcases List.mem_cons.mp h with e | h
    · exact ⟨0, Nat.zero_le _, e.symm⟩
    · obtain ⟨k, h1, h2⟩ := state_at x.go r t h
      exact ⟨k + 1, Nat.succ_le_succ h1, h2⟩
/-- the run behind an offer of a step -/
theorem next_run {M : Mac} (O : MOk M) {lims : List (Option Int)} {W : WS} {done : Nat} {s : Int} {v : Vec} {st : Stp} (I : WInv M lims W done) (hr : (s, v) ∈ W.rest) {j : Nat} (hj : s = (j : Int)) (hjm : j < M.many) (hst : st ∈ M.ways j) :
    refused lims (W.held st.go) (bump M.kinds v st.ki) = false → ∃ r, RunOk M 0 r ∧ endOf 0 r = st.go ∧ fallsOf M.kinds r = bump M.kinds v st.ki ∧ (statesOf r).Nodup ∧ (∀ t ∈ statesOf r, ∃ i : Nat, t = (i : Int) ∧ i < M.many) ∧
      (∀ k, k < r.length → (endOf 0 (r.take k), fallsOf M.kinds (r.take k)) ∈ W.rest) ∧ ((r = [] ∧ some (s, v, st) = (none : Option (Int × Vec × Stp))) ∨ ∃ r0 st0 s0 v0, r = r0 ++ [st0] ∧ some (s, v, st) = some (s0, v0, st0) ∧ ChainOf W.orig s0 v0 r0.reverse) := by
  intro href
  obtain ⟨r, c⟩ := I.came s v hr
  have hl := I.lens s v hr
  refine ⟨r ++ [st], ?_, endOf_snoc _ _ _, by rw [fallsOf_snoc, c.falls], ?_, fun t ht => ?_, fun k hk => ?_, .inr ⟨r, st, s, v, rfl, rfl, c.chain⟩⟩
  · rw [runOk_app]
    exact ⟨c.run, ⟨j, by rw [c.fin, hj], hjm, hst⟩, trivial⟩
  · show (0 :: (r ++ [st]).map (·.go)).Nodup
    rw [List.map_append, ← List.cons_append, List.nodup_append]
    refine ⟨c.simp, by simp, fun a ha b hb e => ?_⟩
    rw [List.map_cons, List.map_nil, List.mem_singleton] at hb
    have ha' : st.go ∈ 0 :: r.map (·.go) := by rw [← hb, ← e]; exact ha
    obtain ⟨k, h1, h2⟩ := state_at 0 r st.go ha'
    have h3 := c.pre k h1
    rw [h2] at h3
    obtain ⟨u, hu, hb2⟩ := I.dom _ _ h3
    have hlu := I.lens _ _ (I.hr _ _ hu)
    have m1 : below (fallsOf M.kinds (r.take k)) v = true := by
      have := fallsOf_mono M.kinds (r.take k) (r.drop k)
      rw [List.take_append_drop, c.falls] at this
      exact this
    have m2 := bump_up st.ki hl
    have m3 := below_trans (hlu.trans (fallsOf_len _ _).symm) ((fallsOf_len _ _).trans hl.symm) hb2 m1
    have m4 := below_trans (hlu.trans hl.symm) (hl.trans (len_bump st.ki hl).symm) m3 m2
    unfold refused at href
    rw [Bool.or_eq_false_iff] at href
    have := List.any_eq_false.mp href.2 u hu
    exact this m4
  · have ht' : t ∈ 0 :: (r ++ [st]).map (·.go) := ht
    rw [List.map_append, ← List.cons_append] at ht'
    rcases List.mem_append.mp ht' with z | z
    · exact c.ins t z
    · rw [List.map_cons, List.map_nil, List.mem_singleton] at z
      rw [z]
      exact O.go j st hst
  · rw [List.length_append] at hk
    have hk' : k ≤ r.length := Nat.lt_succ_iff.mp hk
    rw [List.take_append_of_le_length hk']
    exact c.pre k hk'
def stepsW (M : Mac) (lims : List (Option Int)) (W : WS) (s : Int) (v : Vec) (sts : List Stp) : WS := sts.foldl (fun W st => offerW lims W st.go (bump M.kinds v st.ki) (some (s, v, st))) W
theorem offer_rest (lims : List (Option Int)) (W : WS) (s : Int) (v : Vec) (og : Option (Int × Vec × Stp)) : ∃ more, (offerW lims W s v og).rest = W.rest ++ more := by
  unfold offerW
  split
  · exact ⟨[], (List.append_nil _).symm⟩
  · exact ⟨_, rfl⟩
theorem steps_rest (M : Mac) (lims : List (Option Int)) (s : Int) (v : Vec) : ∀ (sts : List Stp) (W : WS), ∃ more, (stepsW M lims W s v sts).rest = W.rest ++ more
  | [], W => ⟨[], (List.append_nil _).symm⟩
  | st :: sts, W => by
    obtain ⟨m1, h1⟩ := offer_rest lims W st.go (bump M.kinds v st.ki) (some (s, v, st))
    obtain ⟨m2, h2⟩ := steps_rest M lims s v sts (offerW lims W st.go (bump M.kinds v st.ki) (some (s, v, st)))
    refine ⟨m1 ++ m2, ?_⟩
    show (stepsW M lims (offerW lims W st.go _ _) s v sts).rest = _
    rw [h2, h1, List.append_assoc]
theorem steps_inv {M : Mac} (O : MOk M) {lims : List (Option Int)} {done : Nat} {s : Int} {v : Vec} {j : Nat} (hj : s = (j : Int)) (hjm : j < M.many) : ∀ (sts : List Stp) (W : WS), WInv M lims W done → done ≤ W.rest.length → (s, v) ∈ W.rest → (∀ st ∈ sts, st ∈ M.ways j) →
    WInv M lims (stepsW M lims W s v sts) done ∧ done ≤ (stepsW M lims W s v sts).rest.length ∧ (∀ t w, w.length = M.kinds.length → (∃ u ∈ W.held t, below u w = true) → ∃ u ∈ (stepsW M lims W s v sts).held t, below u w = true) ∧
      (∀ st ∈ sts, belowO (bump M.kinds v st.ki) lims = true → ∃ u ∈ (stepsW M lims W s v sts).held st.go, below u (bump M.kinds v st.ki) = true)
  | [], W, I, hd, _, _ => ⟨I, hd, fun _ _ _ h => h, fun _ h => absurd h (by simp)⟩
  | st :: sts, W, I, hd, hr, hw => by
    have hst := hw st List.mem_cons_self
    have hl := I.lens s v hr
    obtain ⟨I1, c1, d1⟩ := offer_inv (og := some (s, v, st)) I (O.go j st hst) (len_bump st.ki hl) hd (next_run O I hr hj hjm hst)
    obtain ⟨m1, e1⟩ := offer_rest lims W st.go (bump M.kinds v st.ki) (some (s, v, st))
    obtain ⟨I2, d2, k2, c2⟩ := steps_inv O hj hjm sts (offerW lims W st.go (bump M.kinds v st.ki) (some (s, v, st))) I1 d1 (by rw [e1]; exact List.mem_append_left _ hr) fun x hx => hw x (List.mem_cons_of_mem _ hx)
    refine ⟨I2, d2, fun t w hwl h => k2 t w hwl (offer_keeps (len_bump st.ki hl) I.hlen hwl h), fun x hx hb => ?_⟩
    rcases List.mem_cons.mp hx with e | hx
    · subst e
      exact k2 _ _ (len_bump x.ki hl) (c1 hb)
    · exact c2 x hx hb
/-- a turn -/
def turnW (M : Mac) (lims : List (Option Int)) (W : WS) (done : Nat) : WS := match W.rest[done]? with
  | some (s, v) => if v ∈ W.held s then stepsW M lims W s v (M.ways s.toNat) else W
  | none => W
theorem turn_inv {M : Mac} (O : MOk M) {lims : List (Option Int)} {W : WS} {done : Nat} (I : WInv M lims W done) {s : Int} {v : Vec} (h : W.rest[done]? = some (s, v)) : WInv M lims (turnW M lims W done) (done + 1) ∧ done + 1 ≤ (turnW M lims W done).rest.length ∧
    (∀ t w, w.length = M.kinds.length → (∃ u ∈ W.held t, below u w = true) → ∃ u ∈ (turnW M lims W done).held t, below u w = true) := by
  have hr := List.mem_of_getElem? h
  have hd : done < W.rest.length := (List.getElem?_eq_some_iff.mp h).1
  obtain ⟨r, c⟩ := I.came s v hr
  obtain ⟨j, hj, hjm⟩ : ∃ i : Nat, s = (i : Int) ∧ i < M.many := by
    refine c.ins s ?_
    rw [← c.fin]
    cases r with
    | nil => simp [statesOf, endOf]
    | cons x r =>
      have : endOf 0 (x :: r) ∈ (x :: r).map (·.go) := by
        have key : ∀ (r : List Stp) (x : Stp), endOf x.go r ∈ x.go :: r.map (·.go) := by
          intro r
          induction r with
          | nil => intro x; simp [endOf]
          | cons y r ih => intro x; exact List.mem_cons_of_mem _ (ih y)
        exact key r x
      exact List.mem_cons_of_mem _ this
  unfold turnW
  rw [h]
  dsimp only
  by_cases hv : v ∈ W.held s
  · rw [if_pos hv]
    have ejn : s.toNat = j := by omega
    rw [ejn]
    obtain ⟨I2, d2, k2, c2⟩ := steps_inv O hj hjm (M.ways j) W I (Nat.le_of_lt hd) hr fun _ h => h
    obtain ⟨more, em⟩ := steps_rest M lims s v (M.ways j) W
    refine ⟨⟨I2.nd, I2.keys, I2.hr, I2.dom, I2.anti, I2.rnd, I2.lens, I2.lim, I2.came, I2.ok, fun i hi t u hu hh j' hj' st hst hb => ?_⟩, by rw [em, List.length_append]; omega, k2⟩
    rcases Nat.lt_succ_iff_lt_or_eq.mp hi with q | q
    · exact I2.closed i q t u hu hh j' hj' st hst hb
    · subst q
      rw [em, List.getElem?_append_left hd, h] at hu
      cases hu
      have : j' = j := by omega
      subst this
      exact c2 st hst hb
  · rw [if_neg hv]
    refine ⟨⟨I.nd, I.keys, I.hr, I.dom, I.anti, I.rnd, I.lens, I.lim, I.came, I.ok, fun i hi t u hu hh j' hj' st hst hb => ?_⟩, hd, fun _ _ _ h => h⟩
    rcases Nat.lt_succ_iff_lt_or_eq.mp hi with q | q
    · exact I.closed i q t u hu hh j' hj' st hst hb
    · subst q
      rw [h] at hu
      cases hu
      exact absurd hh hv
/-! how many pairs there can be -/
def vecsOf (b : Nat) : Nat → List Vec
  | 0 => [[]]
  | n + 1 => (List.range b).flatMap fun i : Nat => (vecsOf b n).map fun v => (i : Int) :: v
theorem vecsOf_mem {b : Nat} : ∀ {n : Nat} {v : Vec}, v.length = n → (∀ x ∈ v, 0 ≤ x ∧ x < (b : Int)) → v ∈ vecsOf b n
  | 0, [], _, _ => by simp [vecsOf]
  | n + 1, a :: v, h, hx => by
    have ih := vecsOf_mem (Nat.succ.inj h) fun x hx' => hx x (List.mem_cons_of_mem _ hx')
    obtain ⟨h1, h2⟩ := hx a List.mem_cons_self
    refine List.mem_flatMap.mpr ⟨a.toNat, List.mem_range.mpr (by omega), List.mem_map.mpr ⟨v, ih, ?_⟩⟩
    rw [show ((a.toNat : Nat) : Int) = a by omega]
def pairsOf (M : Mac) : List (Int × Vec) := (List.range M.many).flatMap fun (i : Nat) => (vecsOf M.many M.kinds.length).map fun v => ((i : Int), v)
theorem nodup_le {α : Type} [DecidableEq α] : ∀ {l m : List α}, l.Nodup → (∀ x ∈ l, x ∈ m) → l.length ≤ m.length
  | [], _, _, _ => Nat.zero_le _
  | a :: l, m, hn, hs => by
    rw [List.nodup_cons] at hn
    have ha := hs a List.mem_cons_self
    have ih := nodup_le (l := l) (m := m.erase a) hn.2 fun x hx => by
      have ne : x ≠ a := fun z => hn.1 (z ▸ hx)
      exact (List.mem_erase_of_ne ne).mpr (hs x (List.mem_cons_of_mem _ hx))
    rw [List.length_erase_of_mem ha] at ih
    have : 0 < m.length := List.length_pos_of_mem ha
    rw [List.length_cons]
    omega
theorem states_few {M : Mac} {W : WS} {s : Int} {v : Vec} {r : List Stp} (c : Came M W s v r) : r.length < M.many := by
  have := nodup_le (m := (List.range M.many).map fun i : Nat => (i : Int)) c.simp fun t ht => by
    obtain ⟨i, rfl, hi⟩ := c.ins t ht
    exact List.mem_map.mpr ⟨i, List.mem_range.mpr hi, rfl⟩
  rw [List.length_map, List.length_range] at this
  unfold statesOf at this
  rw [List.length_cons, List.length_map] at this
  omega
theorem vecsOf_len (b : Nat) : ∀ n, (vecsOf b n).length = b ^ n
  | 0 => rfl
  | n + 1 => by
    unfold vecsOf
    rw [List.length_flatMap]
    have : ((List.range b).map fun i : Nat => ((vecsOf b n).map fun v => (i : Int) :: v).length) = (List.range b).map fun _ => b ^ n := by
      refine List.map_congr_left fun i _ => ?_
      rw [List.length_map, vecsOf_len b n]
    rw [this, List.map_const', List.sum_replicate_nat, List.length_range, Nat.pow_succ, Nat.mul_comm]
theorem rest_le {M : Mac} (O : MOk M) {lims : List (Option Int)} {W : WS} {done : Nat} (I : WInv M lims W done) : W.rest.length ≤ 256 := by
  have h := nodup_le (m := pairsOf M) I.rnd fun p hp => by
    obtain ⟨s, v⟩ := p
    obtain ⟨r, c⟩ := I.came s v hp
    have hs : s ∈ statesOf r := by
      rw [← c.fin]
      obtain ⟨r0, hr0⟩ : ∃ r0, r0 = r := ⟨_, rfl⟩
      cases r with
      | nil => simp [statesOf, endOf]
      | cons x r =>
        have key : ∀ (r : List Stp) (x : Stp), endOf x.go r ∈ x.go :: r.map (·.go) := by
          intro r
          induction r with
          | nil => intro x; simp [endOf]
          | cons y r ih => intro x; exact List.mem_cons_of_mem _ (ih y)
        exact List.mem_cons_of_mem _ (key r x)
    obtain ⟨i, rfl, hi⟩ := c.ins s hs
    refine List.mem_flatMap.mpr ⟨i, List.mem_range.mpr hi, List.mem_map.mpr ⟨v, vecsOf_mem (I.lens _ _ hp) fun x hx => ?_, rfl⟩⟩
    rw [← c.falls] at hx
    have h1 := fallsOf_le M.kinds r hx
    have h2 := states_few c
    omega
  refine Nat.le_trans h ?_
  unfold pairsOf
  rw [List.length_flatMap]
  have : ((List.range M.many).map fun i : Nat => ((vecsOf M.many M.kinds.length).map fun v => ((i : Int), v)).length) = (List.range M.many).map fun _ => M.many ^ M.kinds.length := by
    refine List.map_congr_left fun i _ => ?_
    rw [List.length_map, vecsOf_len]
  rw [this, List.map_const', List.sum_replicate_nat, List.length_range]
  have h1 : M.many ^ M.kinds.length ≤ 4 ^ 3 := Nat.le_trans (Nat.pow_le_pow_left O.small _) (Nat.pow_le_pow_right (by omega) O.few)
  exact Nat.le_trans (Nat.mul_le_mul O.small h1) (by decide)
/-- the empty state -/
def WS.nil : WS := ⟨[], [], []⟩
theorem nil_inv (M : Mac) (lims : List (Option Int)) : WInv M lims WS.nil 0 :=
  ⟨by simp [WS.nil], fun s h => absurd h (by simp [WS.nil]), fun s v h => absurd h (by simp [WS.nil, WS.held, heldC, getA]), fun s v h => absurd h (by simp [WS.nil]), fun s => by simp [WS.nil, WS.held, heldC, getA], by simp [WS.nil], fun s v h => absurd h (by simp [WS.nil]), fun s v h => absurd h (by simp [WS.nil]), fun s v h => absurd h (by simp [WS.nil]), rfl, fun i h => absurd h (by omega)⟩
def startW (M : Mac) (lims : List (Option Int)) : WS := offerW lims WS.nil 0 (zeroV M.kinds) none
theorem zeroV_len (kinds : List Str) : (zeroV kinds).length = kinds.length := List.length_replicate
theorem start_inv {M : Mac} (O : MOk M) (lims : List (Option Int)) : WInv M lims (startW M lims) 0 ∧ (belowO (zeroV M.kinds) lims = true → ∃ u ∈ (startW M lims).held 0, below u (zeroV M.kinds) = true) := by
  have h := offer_inv (og := none) (nil_inv M lims) (s := 0) (v := zeroV M.kinds) ⟨0, rfl, O.pos⟩ (zeroV_len _) (Nat.zero_le _) fun _ => ⟨[], trivial, rfl, fallsOf_nil _, by simp [statesOf], fun t ht => by
    have : t = 0 := by simpa [statesOf] using ht
    exact ⟨0, this, O.pos⟩, fun k hk => absurd hk (by simp), .inl ⟨rfl, rfl⟩⟩
  exact ⟨h.1, h.2.1⟩
end K02
set_option Elab.async false
set_option linter.all false
set_option maxRecDepth 100000
set_option maxHeartbeats 1000000
/-! ### more rules; the state of a Ways -/
namespace K02
open PySem PySem.Spec PyProof.Rows L2 Evl
/-- l + m, lists -/
def rCatL (K : PySem.W.Frag) : R2 := fun x y H Q => ∃ a b xs ys, x = .ref a ∧ y = .ref b ∧ SqL K H a xs ∧ SqL K H b ys ∧ xs.length + ys.length ≤ sizeLine ∧ ∀ p, H p = none → Q (.ref p) (upd H p (.lst (xs ++ ys)))
section
variable {X : Cx}
theorem op_catL : OpR X (binaryOp .Add) (rCatL X.K) := by
  intro pins s σ H x y v u Q I rx ry h
  obtain ⟨a, b, xs, ys, rfl, rfl, ha, hb, hz, q⟩ := h
  obtain rfl : v = Value.ref a := rx
  obtain rfl : u = Value.ref b := ry
  obtain ⟨its, rv, hl, _⟩ := I.list ha
  obtain ⟨its2, rv2, hl2, _⟩ := I.list hb
  have l1 := rv.length
  have l2 := rv2.length
  obtain ⟨⟨cls, dd, data, sl⟩, ho, hc, n, hd⟩ := hl.isList
  obtain ⟨⟨cls2, dd2, data2, sl2⟩, ho2, hc2, n2, hd2⟩ := hl2.isList
  simp only at hc hd hc2 hd2
  subst hc hd hc2 hd2
  refine concat_meets ⟨_, ho, rfl⟩ ⟨_, ho2, rfl⟩ noFill_list_add seq_list_add PySem.F.slot_list_add PySem.F.entry_list_add (PySem.F.args_list_add_2 _ _) (list_addW a b its.toArray its2.toArray n n2 dd dd2 sl sl2 (by rw [List.size_toArray, List.size_toArray]; omega)) ⟨ho, ho2, ?_⟩
  have ea : its.toArray ++ its2.toArray = (its ++ its2).toArray := by simp
  rw [ea]
  exact ⟨.ref _, _, I.lnew (t' := s.toks) (rv.append rv2) (by rw [List.length_append]; omega), rfl, q _ I.fresh⟩
end
section
variable {K : PySem.W.Frag} {P : Program} {w : World} {mg : Str → Option Value} {σ : L2.St} {H Hs : Hp} {te ta tb tv ty tx : TE} {D : Ends}
theorem evd_catL {ds es : List PyData} (ha : EvD K ta σ H (.list ds)) (hb : EvD K tb σ H (.list es)) (hz : ds.length + es.length ≤ 100000) : EvD K (tOp (rCatL K) ta tb) σ H (.list (ds ++ es)) := fun Hs H1 a b Q q =>
  ha Hs H1 a b _ fun v Hs2 H2 f p => hb Hs2 H2 (a.trans f.b) f.c _ fun u Hs3 H3 f3 p3 => by
    obtain ⟨c, xs, rfl, hx, hd⟩ := dp_lst (dp_ex f3.b p)
    obtain ⟨c2, ys, rfl, hy, he⟩ := dp_lst p3
    have fw := f.trans f3
    exact ⟨c, c2, xs, ys, rfl, rfl, ex_l fw.c hx, ex_l fw.c hy, sz_of (by rw [dps_len hd, dps_len he]; exact hz), fun p hp => q _ _ _ (fw.trans (Fw.new fw.c hp)) (.lst (sq_of upd_same) (dps_ex (Fw.new fw.c hp).b (dps_app hd he)))⟩
/-- l.append(e), l not leant on -/
theorem y_app {l : Addr} {xs : List V} {P : V → Hp → Prop} (hl : H l = some (.lst xs)) (e : Ex Hs H) (ha : ∀ H1, Ex H H1 → ∀ Q : VK, (∀ H2, Ex H1 H2 → Q (.ref l) H2) → ta σ H1 Q) (h : EvP te σ Hs P) (hz : xs.length < 100000)
    (k : ∀ v Hs1 H1, Fw Hs H Hs1 H1 → P v Hs1 → D.nx σ (upd H1 l (.lst (xs ++ [v])))) : tDrop (tBM K "list" rAppend ta (tCons te tNil)) D σ H :=
  ha H (Ex.refl _) _ fun H1 e1 => ⟨.inl ⟨rfl, xs, sq_of (e1 l _ hl)⟩, h Hs H1 (Ex.refl _) (e.trans e1) _ fun v Hs2 H2 f p => ⟨l, xs, v, rfl, rfl, f.a l _ (e1 l _ hl), sz_lt hz, k v Hs2 H2 ((Fw.skip e e1).trans f) p⟩⟩
/-- a name or a field that is no data: only what it is -/
theorem ev_fld {a C dx : Addr} {fs : List (Str × V)} {f : Str} {u : V} {i : Nat} (hs : σ[i]? = some (some (.ref a))) (hx : H a = some (.ins C dx fs)) (c : Cls K C) (n : NoAttr K C f) (hl : fs.lookup f = some u) : Ev (tFld K (tVar i) f) σ H u := fun H1 e Q q =>
  ⟨.ref a, hs, a, C, dx, fs, u, rfl, e _ _ hx, c, n, hl, q H1 (Ex.refl _)⟩
end
/-! the state -/
def dPr (p : Int × Vec) : PyData := .tuple [.int p.1, dV p.2]
def kPr (p : Int × Vec) : NestedKey := .tup [.num p.1, kV0 p.2]
def dOg : Option (Int × Vec × Stp) → PyData
  | none => .none
  | some (s, v, st) => .tuple [.int s, dV v, dStp st]
theorem kPr_data (p : Int × Vec) : (kPr p).data = dPr p := by
  unfold kPr dPr
  rw [NestedKey.data, NestedKey.datas, NestedKey.datas, NestedKey.datas, NestedKey.data, kV0_data]
theorem kPr_inj (p q : Int × Vec) (h : kPr p = kPr q) : p = q := by
  obtain ⟨a, b⟩ := p
  obtain ⟨c, d⟩ := q
  unfold kPr at h
  injection h with h
  injection h with h1 h2
  injection h1 with h1
  injection h2 with h2 _
  have h1' : a = c := h1
  have h2' : b = d := kV0_inj _ _ h2
  rw [h1', h2']
theorem kPr_depth (p : Int × Vec) : (kPr p).depth ≤ 8 := by
  have : ∀ v : Vec, NestedKey.depthAll (v.map .num) = 0 := fun v => by
    induction v with
    | nil => simp [NestedKey.depthAll]
    | cons n v ih =>
      show NestedKey.depthAll (.num n :: v.map .num) = 0
      rw [NestedKey.depthAll, ih, NestedKey.depth]
      rfl
  unfold kPr kV0
  rw [NestedKey.depth, NestedKey.depthAll, NestedKey.depthAll, NestedKey.depthAll, NestedKey.depth, NestedKey.depth, this]
  decide
def costsD (c : List (Int × List Vec)) : List (Int × PyData) := c.map fun e => (e.1, .list (e.2.map dV))
def OrD (K : PySem.W.Frag) (H : Hp) : NX → List ((Int × Vec) × Option (Int × Vec × Stp)) → Prop := Paired fun x e => x.1 = kPr e.1 ∧ Dp K H x.2.2 (dOg e.2)
theorem orD_ex {K : PySem.W.Frag} {H H' : Hp} (e : Ex H H') {xs : NX} {l : List ((Int × Vec) × Option (Int × Vec × Stp))} (h : OrD K H xs l) : OrD K H' xs l := by
  unfold OrD at h ⊢
  induction h with
  | nil => exact .nil
  | cons r t ih => exact .cons ⟨r.1, dp_ex e r.2⟩ ih
theorem orD_look {K : PySem.W.Frag} {H : Hp} {xs : NX} {l : List ((Int × Vec) × Option (Int × Vec × Stp))} (h : OrD K H xs l) (p : Int × Vec) : match getA l p with
    | some og => ∃ v, ndLook xs (kPr p) = some v ∧ Dp K H v (dOg og)
    | none => ndLook xs (kPr p) = none := by
  unfold OrD at h
  unfold getA ndLook
  induction h with
  | nil => rfl
  | @cons x y l m r t ih =>
    by_cases q : y.1 = p
    · have q' : x.1 = kPr p := r.1.trans (by rw [q])
      rw [List.find?_cons_of_pos (by simpa using q), List.find?_cons_of_pos (by simpa using q')]
      exact ⟨_, rfl, r.2⟩
    · have q' : ¬ x.1 = kPr p := fun z => q (kPr_inj _ _ (r.1.symm.trans z))
      rw [List.find?_cons_of_neg (by simpa using q), List.find?_cons_of_neg (by simpa using q')]
      exact ih
theorem orD_put {K : PySem.W.Frag} {H : Hp} {xs : NX} {l : List ((Int × Vec) × Option (Int × Vec × Stp))} (h : OrD K H xs l) (p : Int × Vec) (b : Addr) {v : V} {og : Option (Int × Vec × Stp)} (hv : Dp K H v (dOg og)) : OrD K H (ndPut xs (kPr p) b v) (putA l p og) := by
  have e : (ndLook xs (kPr p)).isSome = (l.any fun e => decide (e.1 = p)) := by
    rw [getA_any]
    have q := orD_look h p
    cases g : getA l p with
    | none => rw [g] at q; rw [show ndLook xs (kPr p) = none from q]; rfl
    | some og => rw [g] at q; obtain ⟨v, e, _⟩ := q; rw [e]; rfl
  unfold ndPut putA
  rw [e]
  by_cases q : (l.any fun e => decide (e.1 = p)) = true
  · rw [if_pos q, if_pos q]
    clear e q
    unfold OrD at h ⊢
    induction h with
    | nil => exact .nil
    | @cons x y l m r t ih =>
      refine .cons ?_ ih
      dsimp only
      by_cases q : y.1 = p
      · have q' : x.1 = kPr p := r.1.trans (by rw [q])
        rw [if_pos q, if_pos q']
        exact ⟨r.1, hv⟩
      · have q' : ¬ x.1 = kPr p := fun z => q (kPr_inj _ _ (r.1.symm.trans z))
        rw [if_neg q, if_neg q']
        exact r
  · rw [if_neg q, if_neg q]
    clear e q
    unfold OrD at h ⊢
    induction h with
    | nil => exact .cons ⟨rfl, hv⟩ .nil
    | cons r t ih => exact .cons r ih
theorem entD_put {K : PySem.W.Frag} {H : Hp} {kvs : List (Key × V)} {ents : List (Int × PyData)} (h : EntD K H kvs ents) (s : Int) {v : V} {d : PyData} (hv : Dp K H v d) : EntD K H (putK kvs (.inl s) v) (putA ents s d) := by
  have e : (kvs.any fun kv => decide (kv.1 = Sum.inl s)) = (ents.any fun e => decide (e.1 = s)) := by
    unfold EntD at h
    induction h with
    | nil => rfl
    | @cons x y l m r t ih =>
      rw [List.any_cons, List.any_cons, ih, r.1]
      by_cases q : y.1 = s
      · simp [q]
      · simp [q]
  unfold putK putA
  rw [e]
  by_cases q : (ents.any fun e => decide (e.1 = s)) = true
  · rw [if_pos q, if_pos q]
    clear e q
    unfold EntD at h ⊢
    induction h with
    | nil => exact .nil
    | @cons x y l m r t ih =>
      refine .cons ?_ ih
      dsimp only
      by_cases q : y.1 = s
      · have q' : x.1 = Sum.inl s := r.1.trans (by rw [q])
        rw [if_pos q, if_pos q']
        exact ⟨r.1, hv⟩
      · have q' : ¬ x.1 = Sum.inl s := fun z => q (Sum.inl.inj (r.1.symm.trans z))
        rw [if_neg q, if_neg q']
        exact r
  · rw [if_neg q, if_neg q]
    clear e q
    unfold EntD at h ⊢
    induction h with
    | nil => exact .cons ⟨rfl, hv⟩ .nil
    | cons r t ih => exact .cons r ih
theorem putA_map {κ β γ : Type} [DecidableEq κ] (f : β → γ) (l : List (κ × β)) (k : κ) (b : β) : (putA l k b).map (fun e => (e.1, f e.2)) = putA (l.map fun e => (e.1, f e.2)) k (f b) := by
  have e : ((l.map fun e => (e.1, f e.2)).any fun e => decide (e.1 = k)) = (l.any fun e => decide (e.1 = k)) := by rw [List.any_map]; rfl
  unfold putA
  rw [e]
  by_cases q : (l.any fun e => decide (e.1 = k)) = true
  · rw [if_pos q, if_pos q, List.map_map, List.map_map]
    refine List.map_congr_left fun x _ => ?_
    show ((if x.1 = k then (x.1, b) else x).1, f (if x.1 = k then (x.1, b) else x).2) = if x.1 = k then (x.1, f b) else (x.1, f x.2)
    split <;> rfl
  · rw [if_neg q, if_neg q, List.map_append]
    rfl
theorem getA_mapv {κ β γ : Type} [DecidableEq κ] (f : β → γ) (l : List (κ × β)) (k : κ) : getA (l.map fun e => (e.1, f e.2)) k = (getA l k).map f := by
  unfold getA
  induction l with
  | nil => rfl
  | cons e l ih =>
    rw [List.map_cons]
    by_cases q : e.1 = k
    · rw [List.find?_cons_of_pos (by simpa using q), List.find?_cons_of_pos (by simpa using q)]
      rfl
    · rw [List.find?_cons_of_neg (by simpa using q), List.find?_cons_of_neg (by simpa using q)]
      exact ih
theorem entL_getA (ents : List (Int × PyData)) (i : Int) : entL ents i = getA ents i := rfl
/-- a Ways: where it stands, what does not change -/
structure WAd where
  x : Addr
  dx : Addr
  c : Addr
  o : Addr
  r : Addr
  fs : List (Str × V)
structure WFix (K : PySem.W.Frag) (M : Mac) (t : Bool) (lims : List (Option Int)) (A : WAd) (Hs : Hp) : Prop where
  hx : Hs A.x = some (.ins (He.ga K "Ways") A.dx A.fs)
  mac : ∃ m, A.fs.lookup ("machine" : Str) = some m ∧ MacAt K M m Hs
  lim : ∃ l, A.fs.lookup ("limits" : Str) = some l ∧ Dp K Hs l (dSeq t (lims.map dO))
  aft : ∃ a, A.fs.lookup ("after" : Str) = some a ∧ AddAt K M.kinds a Hs
  cst : A.fs.lookup ("costs" : Str) = some (.ref A.c)
  org : A.fs.lookup ("origins" : Str) = some (.ref A.o)
  rst : A.fs.lookup ("rest" : Str) = some (.ref A.r)
  nat : A.fs.lookup ("offer" : Str) = none ∧ A.fs.lookup ("run" : Str) = none ∧ A.fs.lookup ("table" : Str) = none ∧ A.fs.lookup ("least" : Str) = none ∧ A.fs.lookup ("run_to" : Str) = none
theorem WFix.ex {K : PySem.W.Frag} {M : Mac} {t : Bool} {lims : List (Option Int)} {A : WAd} {Hs Hs' : Hp} (e : Ex Hs Hs') (h : WFix K M t lims A Hs) : WFix K M t lims A Hs' := by
  obtain ⟨m, m1, m2⟩ := h.mac
  obtain ⟨l, l1, l2⟩ := h.lim
  obtain ⟨a, a1, a2⟩ := h.aft
  exact ⟨e _ _ h.hx, ⟨m, m1, m2.ex e⟩, ⟨l, l1, dp_ex e l2⟩, ⟨a, a1, a2.ex e⟩, h.cst, h.org, h.rst, h.nat⟩
structure WSt (K : PySem.W.Frag) (P : Program) (w : World) (A : WAd) (W : WS) (Hs H : Hp) : Prop where
  c : ∃ kvs, H A.c = some (.dK kvs) ∧ EntD K Hs kvs (costsD W.costs)
  o : ∃ xs, H A.o = some (NdO P w A.o xs) ∧ NdK K Hs xs ∧ OrD K Hs xs W.orig
  r : ∃ vs, H A.r = some (.lst vs) ∧ DpAll K Hs vs (W.rest.map dPr)
  nc : Hs A.c = none
  no : Hs A.o = none
  nr : Hs A.r = none
section
variable {K : PySem.W.Frag} {P : Program} {w : World} {A : WAd} {W : WS} {Hs H Hs' H' : Hp}
theorem WSt.fw (f : Fw Hs H Hs' H') (S : WSt K P w A W Hs H) : WSt K P w A W Hs' H' := by
  obtain ⟨kvs, c1, c2⟩ := S.c
  obtain ⟨xs, o1, o2, o3⟩ := S.o
  obtain ⟨vs, r1, r2⟩ := S.r
  exact ⟨⟨kvs, f.a _ _ c1, entD_ex f.b c2⟩, ⟨xs, f.a _ _ o1, o2.ex f.b, orD_ex f.b o3⟩, ⟨vs, f.a _ _ r1, dps_ex f.b r2⟩, f.d _ _ c1 S.nc, f.d _ _ o1 S.no, f.d _ _ r1 S.nr⟩
theorem WSt.setC (S : WSt K P w A W Hs H) {kvs : List (Key × V)} {cs : List (Int × List Vec)} (h : EntD K Hs kvs (costsD cs)) : WSt K P w A { W with costs := cs } Hs (upd H A.c (.dK kvs)) := by
  obtain ⟨kvs0, c1, c2⟩ := S.c
  obtain ⟨xs, o1, o2, o3⟩ := S.o
  obtain ⟨vs, r1, r2⟩ := S.r
  exact ⟨⟨kvs, upd_same, h⟩, ⟨xs, by rw [upd_ne (ne_of o1 c1 (fun z => nomatch z))]; exact o1, o2, o3⟩, ⟨vs, by rw [upd_ne (ne_of r1 c1 (fun z => nomatch z))]; exact r1, r2⟩, S.nc, S.no, S.nr⟩
theorem WSt.setO (S : WSt K P w A W Hs H) {xs : NX} {og : List ((Int × Vec) × Option (Int × Vec × Stp))} (h1 : NdK K Hs xs) (h : OrD K Hs xs og) : WSt K P w A { W with orig := og } Hs (upd H A.o (NdO P w A.o xs)) := by
  obtain ⟨kvs0, c1, c2⟩ := S.c
  obtain ⟨xs0, o1, o2, o3⟩ := S.o
  obtain ⟨vs, r1, r2⟩ := S.r
  exact ⟨⟨kvs0, by rw [upd_ne (ne_of c1 o1 (fun z => nomatch z))]; exact c1, c2⟩, ⟨xs, upd_same, h1, h⟩, ⟨vs, by rw [upd_ne (ne_of r1 o1 (fun z => nomatch z))]; exact r1, r2⟩, S.nc, S.no, S.nr⟩
theorem WSt.setR (S : WSt K P w A W Hs H) {vs : List V} {rs : List (Int × Vec)} (h : DpAll K Hs vs (rs.map dPr)) : WSt K P w A { W with rest := rs } Hs (upd H A.r (.lst vs)) := by
  obtain ⟨kvs0, c1, c2⟩ := S.c
  obtain ⟨xs, o1, o2, o3⟩ := S.o
  obtain ⟨vs0, r1, r2⟩ := S.r
  exact ⟨⟨kvs0, by rw [upd_ne (ne_of c1 r1 (fun z => nomatch z))]; exact c1, c2⟩, ⟨xs, by rw [upd_ne (ne_of o1 r1 (fun z => nomatch z))]; exact o1, o2, o3⟩, ⟨vs, upd_same, h⟩, S.nc, S.no, S.nr⟩
/-- the same addresses with another part -/
theorem WSt.of {cs : List (Int × List Vec)} (S : WSt K P w A W Hs H) (h : cs = W.costs) : WSt K P w A { W with costs := cs } Hs H := by subst h; exact S
end
end K02
set_option Elab.async false
set_option linter.all false
set_option maxRecDepth 100000
set_option maxHeartbeats 1000000
/-! ### Ways.offer -/
namespace K02
open PySem PySem.Spec PyProof.Rows L2 Evl
theorem y_setd {K : PySem.W.Frag} {σ : L2.St} {H : Hp} {te ty : TE} {D : Ends} {kvs : List (Key × V)} {c : Addr} {s : Int} {i : Nat} (h : Ev te σ H (.ref c)) (hs : Ev ty σ H (.int s)) (hc : H c = some (.dK kvs)) (hl : kvs.length < sizeLine)
    (k : ∀ p H1, Ex H H1 → H1 p = none → (∀ v, valV kvs (.inl s) = some v → D.nx (σ.set i (some v)) (upd H1 p (.lst []))) ∧ (valV kvs (.inl s) = none → D.nx (σ.set i (some (.ref p))) (upd (upd H1 p (.lst [])) c (.dK (putK kvs (.inl s) (.ref p)))))) :
    tAsg (tDSetd te ty (tLst tNil)) (gName i) D σ H :=
  h H (Ex.refl _) _ fun H1 e1 => ⟨c, rfl, .inl ⟨kvs, .inl (e1 _ _ hc)⟩, hs H1 e1 _ fun H2 e2 => ⟨Nat.zero_le _, fun p hp => ⟨kvs, .inl s, by rw [upd_ne (ne_of_none (e2 _ _ (e1 _ _ hc)) hp)]; exact e2 _ _ (e1 _ _ hc), rfl, hl, fun v hv => (k p H2 (e1.trans e2) hp).1 v hv, fun hn => (k p H2 (e1.trans e2) hp).2 hn⟩⟩⟩
theorem y_dput {K : PySem.W.Frag} {σ : L2.St} {Hs H : Hp} {td ty tv : TE} {D : Ends} {P : V → Hp → Prop} {kvs : List (Key × V)} {c : Addr} {s : Int} (h : EvP tv σ Hs P) (hd : Ev td σ Hs (.ref c)) (hs : Ev ty σ Hs (.int s)) (e : Ex Hs H) (hc : H c = some (.dK kvs)) (hl : kvs.length < sizeLine)
    (k : ∀ v Hs1 H1, Fw Hs H Hs1 H1 → P v Hs1 → D.nx σ (upd H1 c (.dK (putK kvs (.inl s) v)))) : sDPut td ty tv D σ H :=
  h Hs H (Ex.refl _) e _ fun v Hs1 H1 f p => hd H1 (f.b.trans f.c) _ fun H2 e2 => hs H2 ((f.b.trans f.c).trans e2) _ fun H3 e3 => by
    have fw := f.trans (Fw.skip f.c (e2.trans e3))
    exact ⟨c, _, rfl, DPut.k (k := .inl s) (fw.a _ _ hc) hl, k v Hs1 H3 fw p⟩
theorem y_nput {K : PySem.W.Frag} {P0 : Program} {w : World} {σ : L2.St} {Hs H : Hp} {td ty tv : TE} {D : Ends} {P : V → Hp → Prop} {xs : NX} {o : Addr} {ks : List NestedKey} (h : EvP tv σ Hs P) (mono : ∀ v H1 H2, Ex H1 H2 → P v H1 → P v H2) (hd : Ev td σ Hs (.ref o)) (hk : EvD K ty σ Hs (NestedKey.tup ks).data) (hdep : (NestedKey.tup ks).depth ≤ 8) (e : Ex Hs H) (ho : H o = some (NdO P0 w o xs)) (hno : Hs o = none) (hx : NdK K Hs xs) (hl : xs.length < sizeLine)
    (k : ∀ v b Hs1 H1, Fw Hs H Hs1 H1 → P v Hs1 → Dp K Hs1 (.ref b) (NestedKey.tup ks).data → D.nx σ (upd H1 o (NdO P0 w o (ndPut xs (.tup ks) b v)))) : sNPut K P0 w td ty tv D σ H :=
  h Hs H (Ex.refl _) e _ fun v Hs1 H1 f p => hd H1 (f.b.trans f.c) _ fun H2 e2 => hk Hs1 H2 f.b (f.c.trans e2) _ fun y Hs3 H3 f3 p3 => by
    have fw := (f.trans (Fw.skip f.c e2)).trans f3
    have p3' := p3
    rw [NestedKey.data] at p3'
    obtain ⟨b, _, rfl, _⟩ := dp_tup p3'
    exact ⟨o, b, xs, .tup ks, rfl, rfl, fw.a _ _ ho, hx.ex (fw.b.trans fw.c), dp_ex fw.c p3, hdep, hl, k v b Hs3 H3 fw (mono _ _ _ f3.b p) p3⟩
/-- .. of the costs of a Ways -/
theorem y_setdW {K : PySem.W.Frag} {P : Program} {w : World} {σ : L2.St} {Hs H : Hp} {te ty : TE} {D : Ends} {A : WAd} {W : WS} {s : Int} {i : Nat} (eH : Ex Hs H) (S : WSt K P w A W Hs H) (h : Ev te σ H (.ref A.c)) (hs : Ev ty σ H (.int s)) (hl : W.costs.length ≤ 1000)
    (k : ∀ Hs1 H1 u, Fm Hs H Hs1 H1 → WSt K P w A { W with costs := setd W.costs s } Hs1 H1 → Dp K Hs1 u (.list ((W.held s).map dV)) → (∀ b o, b ≠ A.c → b ≠ A.o → b ≠ A.r → H b = some o → H1 b = some o) → D.nx (σ.set i (some u)) H1) :
    tAsg (tDSetd te ty (tLst tNil)) (gName i) D σ H := by
  obtain ⟨kvs, hc, hce⟩ := S.c
  have klen : kvs.length = W.costs.length := by
    have := Paired.length hce
    unfold costsD at this
    rw [List.length_map] at this
    exact this
  have look := entD_look hce s
  have eg : entL (costsD W.costs) s = (getA W.costs s).map fun l => PyData.list (l.map dV) := getA_mapv (fun l : List Vec => PyData.list (l.map dV)) W.costs s
  rw [eg] at look
  refine y_setd (K := K) (kvs := kvs) (c := A.c) (s := s) h hs hc (sz_lt (by omega)) fun p H1 e1 hp => ⟨fun u hu => ?_, fun hn => ?_⟩
  · cases g : getA W.costs s with
    | none =>
      rw [g] at look
      rw [show valV kvs (.inl s) = none from look] at hu
      cases hu
    | some held =>
      rw [g] at look
      obtain ⟨v, v1, v2⟩ := look
      rw [v1] at hu
      cases hu
      have fw : Fw Hs H Hs (upd H1 p (.lst [])) := Fw.skip eH (e1.trans (Ex.new hp))
      refine k Hs _ _ fw.m ?_ ?_ fun b o _ _ _ hb => fw.a b o hb
      · have e : setd W.costs s = W.costs := by unfold setd; rw [if_pos (by rw [g]; rfl)]
        rw [e]
        exact S.fw fw
      · have e : W.held s = held := by unfold WS.held heldC; rw [g]; rfl
        rw [e]
        exact v2
  · have g : getA W.costs s = none := by
      cases g : getA W.costs s with
      | none => rfl
      | some held =>
        rw [g] at look
        obtain ⟨v, v1, _⟩ := look
        rw [v1] at hn
        cases hn
    have f1 : Fw Hs H (upd Hs p (.lst [])) (upd H1 p (.lst [])) := (Fw.skip eH e1).trans (Fw.new (eH.trans e1) hp)
    have S1 := S.fw f1
    obtain ⟨kvs1, d1, d2⟩ := S1.c
    have ek : kvs1 = kvs := by
      have := f1.a _ _ hc
      rw [d1] at this
      cases this
      rfl
    subst ek
    have v0 : Dp K (upd Hs p (.lst [])) (.ref p) (.list (([] : List Vec).map dV)) := .lst (sq_of upd_same) .nil
    have put := entD_put d2 s v0
    have e2 : putA (costsD W.costs) s (.list (([] : List Vec).map dV)) = costsD (setd W.costs s) := by
      unfold setd costsD
      rw [if_neg (by rw [g]; decide)]
      exact (putA_map (fun l : List Vec => PyData.list (l.map dV)) W.costs s []).symm
    rw [e2] at put
    refine k _ _ _ (f1.m.trans (Fm.mut f1.c S1.nc)) (S1.setC put) ?_ fun b o hb _ _ hb' => by rw [upd_ne hb]; exact f1.a b o hb'
    have e : W.held s = [] := by unfold WS.held heldC; rw [g]; rfl
    rw [e]
    exact v0
def spOffer (K : PySem.W.Frag) (P : Program) (w : World) : Sp := fun vs H Q _ => ∃ (M : Mac) (t : Bool) (lims : List (Option Int)) (A : WAd) (W : WS) (Hs : Hp) (y z : V) (s : Int) (v : Vec) (og : Option (Int × Vec × Stp)),
  vs = [.ref A.x, .int s, y, z] ∧ Ex Hs H ∧ WFix K M t lims A Hs ∧ WSt K P w A W Hs H ∧ Dp K Hs y (dV v) ∧ Dp K Hs z (dOg og) ∧ W.costs.length ≤ 1000 ∧ W.orig.length ≤ 1000 ∧ W.rest.length ≤ 1000 ∧ v.length ≤ 1000 ∧ (∀ s, ∀ u ∈ W.held s, u.length ≤ 1000) ∧ (∀ s, (W.held s).length ≤ 1000) ∧
  ∀ Hs2 H2, Fm Hs H Hs2 H2 → WSt K P w A (offerW lims W s v og) Hs2 H2 → (∀ b u, b ≠ A.c → b ≠ A.o → b ≠ A.r → H b = some u → H2 b = some u) → Q .non H2
section
variable {P : Program} {w : World} {K : PySem.W.Frag} {mg : Str → Option Value} {base : Heap}
abbrev NOF : List Str := ["self", "state", "vector", "origin", "held", "other"]
theorem scOffer : FnScope NOF ["self", "state", "vector", "origin"] (defScope sOffer) := ⟨rfl, rfl, rfl, by decide +kernel, rfl, by decide +kernel, by decide +kernel⟩
theorem ok_offer (T : G K mg) : Ok P w K mg base CX0 3 (He.ma K (He.ga K "Ways") "offer") ["self", "state", "vector", "origin"] (spOffer K P w) := by
  obtain ⟨fd, F⟩ := T.funM 17
  obtain ⟨fdB, GB, bB, kB⟩ := ok_within (P := P) (w := w) (base := base) T
  refine ok_of F scOffer (fun vs H Q E h => ?_) (fun _ _ _ _ _ _ us hl => match us, hl with | [_, _, _, _], _ => rfl) fun cdv A outer s H vs Q E hr h => ?_
  · obtain ⟨_, _, _, _, _, _, _, _, _, _, _, rfl, _⟩ := h
    rfl
  · obtain ⟨M, t, lims, WA, W, Hs, y, z, st, v, og, rfl, eH, hF, hS, hy, hz, l1, l2, l3, l4, l5, l6, kQ⟩ := h
    refine ⟨_, pss_cons (ps_set (i := 4) scOffer.nd rfl (Or.inl rfl) (pe_dsetd (pe_fld (pv 0) rfl) (pv 1) (pe_lst pa_nil) ⟨rfl, rfl, rfl, rfl⟩))
      (pss_cons (ps_if (PW.pt (pw_or (pt_not (pt_val (pe_call GB hr rfl (T.gl "is_within") kB bB .nil pass0 (pa_cons (pv 2) (pa_cons (pe_fld (pv 0) rfl) pa_nil)))))
          (pw_or1 (pt_val (pe_callB (cr_any rfl) rfl (T.fr "any") (by decide +kernel) (pa_cons (pe_lc (own := [("other", 5)]) (g := gName 5) (tt := tYes) (te := tCall (spBelow K) [] E0 (tCons (tVar 5) (tCons (tVar 2) tNil))) rfl scOffer.nd (pi_list (pv 4)) (blkOk_by (N := NOF) (sc := defScope sOffer) (by decide +kernel))
            (fun _ _ _ _ _ => pg_name (i := 5) scOffer.nd rfl (Or.inl rfl)) (fun _ _ _ _ _ => pts_nil) (fun _ _ _ _ _ => pe_call GB hr rfl (T.gl "is_within") kB bB .nil pass0 (pa_cons (pv 5) (pa_cons (pv 2) pa_nil)))) pa_nil)))))) (pss_one ps_retN) pss_nil)
      (pss_cons (ps_dput (room_1 hr) (pe_fld (pv 0) rfl) (pv 1) (pe_op op_catL (pe_lc (own := [("other", 5)]) (g := gName 5) (tt := tNot (tB (tCall (spBelow K) [] E0 (tCons (tVar 2) (tCons (tVar 5) tNil))))) (te := tVar 5) rfl scOffer.nd (pi_list (pv 4)) (blkOk_by (N := NOF) (sc := defScope sOffer) (by decide +kernel))
            (fun _ _ _ _ _ => pg_name (i := 5) scOffer.nd rfl (Or.inl rfl)) (fun _ _ _ _ _ => pts_one (pt_not (pt_val (pe_call GB hr rfl (T.gl "is_within") kB bB .nil pass0 (pa_cons (pv 2) (pa_cons (pv 5) pa_nil)))))) (fun _ _ _ _ _ => pv 5)) (pe_lst (pa_cons (pv 2) pa_nil))) rfl)
      (pss_cons (ps_nput hr.units (pe_fld (pv 0) rfl) (pe_tup (pa_cons (pv 1) (pa_cons (pv 2) pa_nil))) (pv 3) rfl)
      (pss_one (ps_expr (pe_bm PySem.F.plainAttrs_list PySem.F.slot_list_append PySem.F.type_list_append mt_append (pe_fld (pv 0) rfl) (pa_cons (pe_tup (pa_cons (pv 1) (pa_cons (pv 2) pa_nil))) pa_nil))))))), ?_⟩
    have ev0 : ∀ {H0 : Hp} {σ : L2.St} {f : Str} {u : V}, Ex Hs H0 → σ[0]? = some (some (.ref WA.x)) → NoAttr K (He.ga K "Ways") f → WA.fs.lookup f = some u → Ev (tFld K (tVar 0) f) σ H0 u := fun {H0 σ f u} e hs n hl => ev_fld hs (e _ _ hF.hx) (T.cl "Ways") n hl
    refine y_setdW eH hS (ev0 eH rfl (T.no "Ways" "costs") hF.cst) (ev_var rfl) l1 fun Hs1 H1 u f1 S1 hu fr1 => ?_
    dsimp only
    obtain ⟨lv, lv1, lv2⟩ := hF.lim
    have hy1 : Dp K Hs1 y (dV v) := dp_ex f1.b hy
    have vec : ∀ {H0 : Hp} {σ : L2.St}, Ex Hs1 H0 → σ[2]? = some (some y) → EvD K (tVar 2) σ H0 (dV v) := fun {H0 σ} e hs => evd_var hs (dp_ex e hy1)
    have t1 : EvT (tOr (tNot (tB (tCall (spBelow K) [] E0 (tCons (tVar 2) (tCons (tFld K (tVar 0) "limits") tNil))))) (tB (tCB (rAny K) (tCons (tLc (iList K (tVar 4)) (gName 5) tYes (tCall (spBelow K) [] E0 (tCons (tVar 5) (tCons (tVar 2) tNil))) [5]) tNil)))) ((start NOF [.ref WA.x, .int st, y, z]).set 4 (some u)) Hs1 (refused lims (W.held st) v) := by
      refine et_or (et_not (et_B (evb_call (R := fun vs H2 => DpAll K H2 vs [dV v, dSeq t (lims.map dO)]) (ead_cons (vec (Ex.refl _) rfl) (ead_cons (evd_of (ev0 f1.b rfl (T.no "Ways" "limits") lv1) (dp_ex f1.b lv2)) ead_nil)) fun Hs2 H2 _ e2 vs hvs Q0 hQ => ?_))) fun _ => et_B ?_
      · obtain ⟨a, b, rfl, r1, r2⟩ := dps2 hvs
        exact ⟨Hs2, a, b, v, t, lims, rfl, e2, r1, r2, l4, hQ⟩
      · have key := evd_lcM (K := K) (vs := [5]) (te := tCall (spBelow K) [] E0 (tCons (tVar 5) (tCons (tVar 2) tNil))) (W.held st) (fun o => PyData.bool (below o v)) (wk_listA (W.held st) dV (j := 5) (evd_var (i := 4) (σ := (start NOF [.ref WA.x, .int st, y, z]).set 4 (some u)) (v := u) rfl hu)) (by have := l6 st; omega) fun i o σ2 H' hi e hS => by
          obtain ⟨u', ⟨a1, e1, p1⟩, rfl⟩ := hS
          rw [hi] at e1
          cases e1
          refine ⟨rfl, evd_bl (evb_call (R := fun vs H2 => DpAll K H2 vs [dV o, dV v]) (ead_cons (evd_var rfl p1) (ead_cons (vec e rfl) ead_nil)) fun Hs3 H3 _ e4 vs hvs Q0 hQ => ?_)⟩
          obtain ⟨a, b, rfl, r1, r2⟩ := dps2 hvs
          refine ⟨Hs3, a, b, o, true, v.map some, rfl, e4, r1, by rw [← dV_seq]; exact r2, l5 st o (List.mem_of_getElem? hi), fun H2 e5 => ?_⟩
          rw [belowO_some]
          exact hQ H2 e5
        have em : (W.held st).map (fun o => PyData.bool (below o v)) = ((W.held st).map fun o => below o v).map PyData.bool := by rw [List.map_map]; rfl
        rw [em] at key
        have := ev_any key
        rw [List.any_map] at this
        exact this
    refine y_if t1 f1.c (fun hb H2 e2 => ?_) fun hb H2 e2 => ?_
    · have e : offerW lims W st v og = { W with costs := setd W.costs st } := by unfold offerW; rw [if_pos hb]
      refine kQ Hs1 H2 (f1.trans (Fw.skip f1.c e2).m) ?_ fun b o h1 h2 h3 h4 => e2 b o (fr1 b o h1 h2 h3 h4)
      rw [e]
      exact S1.fw (Fw.skip f1.c e2)
    · have e : offerW lims W st v og = ⟨putA (setd W.costs st) st ((W.held st).filter (fun o => !below v o) ++ [v]), putA W.orig (st, v) og, W.rest ++ [(st, v)]⟩ := by unfold offerW; rw [if_neg (by rw [hb]; decide)]
      rw [e] at kQ
      refine y_next ?_
      dsimp only
      have f2 := Fw.skip f1.c e2
      have S2 := S1.fw f2
      obtain ⟨kvs, c1, c2⟩ := S2.c
      have klen : kvs.length = (setd W.costs st).length := by
        have := Paired.length c2
        unfold costsD at this
        rw [List.length_map] at this
        exact this
      have slen : (setd W.costs st).length ≤ 1001 := by
        have e := congrArg List.length (setd_keys W.costs st)
        rw [List.length_map] at e
        rw [e]
        unfold ddOn
        split
        · rw [List.length_map]; omega
        · rw [List.length_append, List.length_map, List.length_singleton]; omega
      have lst : EvD K (tOp (rCatL K) (tLc (iList K (tVar 4)) (gName 5) (tNot (tB (tCall (spBelow K) [] E0 (tCons (tVar 2) (tCons (tVar 5) tNil))))) (tVar 5) [5]) (tLst (tCons (tVar 2) tNil))) ((start NOF [.ref WA.x, .int st, y, z]).set 4 (some u)) Hs1 (.list (((W.held st).filter (fun o => !below v o) ++ [v]).map dV)) := by
        have key := evd_lcA (K := K) (vs := [5]) (te := tVar 5) (tt := tNot (tB (tCall (spBelow K) [] E0 (tCons (tVar 2) (tCons (tVar 5) tNil))))) (W.held st) (fun o => !below v o) dV (wk_listA (W.held st) dV (j := 5) (evd_var (i := 4) (σ := (start NOF [.ref WA.x, .int st, y, z]).set 4 (some u)) (v := u) rfl hu)) (by have := l6 st; omega) fun i o σ2 H' hi e hS => by
          obtain ⟨u', ⟨a1, e1, p1⟩, rfl⟩ := hS
          rw [hi] at e1
          cases e1
          refine ⟨rfl, et_not (et_B (evb_call (R := fun vs H2 => DpAll K H2 vs [dV v, dV o]) (ead_cons (vec e rfl) (ead_cons (evd_var rfl p1) ead_nil)) fun Hs3 H3 _ e4 vs hvs Q0 hQ => ?_)), fun _ => evd_var rfl p1⟩
          obtain ⟨a, b, rfl, r1, r2⟩ := dps2 hvs
          refine ⟨Hs3, a, b, v, true, o.map some, rfl, e4, r1, by rw [← dV_seq]; exact r2, l4, fun H2 e5 => ?_⟩
          rw [belowO_some]
          exact hQ H2 e5
        have all := evd_catL key (evd_lst (ead_cons (vec (σ := (start NOF [.ref WA.x, .int st, y, z]).set 4 (some u)) (Ex.refl _) rfl) ead_nil) (by simp)) (by
          have h1 := List.length_filter_le (fun o => !below v o) (W.held st)
          have h2 := l6 st
          rw [List.length_map]
          simp
          omega)
        rw [List.map_append]
        exact all
      refine y_dput (K := K) (s := st) lst (ev0 f1.b rfl (T.no "Ways" "costs") hF.cst) (ev_var rfl) f2.c c1 (sz_lt (by omega)) fun nl Hs3 H3 f3 p3 => ?_
      dsimp only
      have S3 := S2.fw f3
      obtain ⟨kvs3, d1, d2⟩ := S3.c
      have ek : kvs3 = kvs := by
        have := f3.a _ _ c1
        rw [d1] at this
        cases this
        rfl
      subst ek
      have put := entD_put d2 st p3
      have e4 : putA (costsD (setd W.costs st)) st (.list (((W.held st).filter (fun o => !below v o) ++ [v]).map dV)) = costsD (putA (setd W.costs st) st ((W.held st).filter (fun o => !below v o) ++ [v])) := (putA_map (fun l : List Vec => PyData.list (l.map dV)) (setd W.costs st) st _).symm
      rw [e4] at put
      have S4 := S3.setC put
      have m4 := (f1.trans f2.m).trans (f3.m.trans (Fm.mut (o := .dK (putK kvs3 (.inl st) nl)) f3.c S3.nc))
      have fr4 : ∀ b o, b ≠ WA.c → b ≠ WA.o → b ≠ WA.r → H b = some o → (upd H3 WA.c (.dK (putK kvs3 (.inl st) nl))) b = some o := fun b o h1 h2 h3 h4 => by rw [upd_ne h1]; exact f3.a _ _ (e2 b o (fr1 b o h1 h2 h3 h4))
      have x4 : Ex Hs Hs3 := f1.b.trans (f2.b.trans f3.b)
      obtain ⟨xs, o1, o2, o3⟩ := S4.o
      have xlen : xs.length = W.orig.length := Paired.length o3
      have kd : EvD K (tTup (tCons (tVar 1) (tCons (tVar 2) tNil))) ((start NOF [.ref WA.x, .int st, y, z]).set 4 (some u)) Hs3 (kPr (st, v)).data := by
        rw [kPr_data]
        exact evd_tup (ead_cons (evd_var (i := 1) (v := .int st) rfl (.int st)) (ead_cons (evd_var (i := 2) (v := y) rfl (dp_ex x4 hy)) ead_nil)) (by simp)
      refine y_nput (K := K) (P0 := P) (w := w) (xs := xs) (o := WA.o) (evd_var (K := K) (i := 3) (v := z) rfl (dp_ex x4 hz)) (fun _ _ _ => dp_mono _ _ _) (ev0 x4 rfl (T.no "Ways" "origins") hF.org) kd (kPr_depth _) m4.c o1 S4.no o2 (sz_lt (by omega)) fun ov b Hs5 H5 f5 p5 pb => ?_
      dsimp only
      have S5 := S4.fw f5
      have S6 := S5.setO (NdK.put (o2.ex f5.b) pb (kPr_depth (st, v))) (orD_put (orD_ex f5.b o3) (st, v) b p5)
      have x6 : Ex Hs Hs5 := x4.trans f5.b
      have m6 := m4.trans (f5.m.trans (Fm.mut (o := NdO P w WA.o (ndPut xs (kPr (st, v)) b ov)) f5.c S5.no))
      obtain ⟨rs, r1, r2⟩ := S6.r
      have rlen : rs.length = W.rest.length := by
        have := dps_len r2
        rw [List.length_map] at this
        exact this
      have pd : EvD K (tTup (tCons (tVar 1) (tCons (tVar 2) tNil))) ((start NOF [.ref WA.x, .int st, y, z]).set 4 (some u)) Hs5 (dPr (st, v)) := evd_tup (ead_cons (evd_var (i := 1) (v := .int st) rfl (.int st)) (ead_cons (evd_var (i := 2) (v := y) rfl (dp_ex x6 hy)) ead_nil)) (by simp)
      refine y_app (l := WA.r) (xs := rs) r1 m6.c (fun H7 e7 Q0 q0 => ev0 (x6.trans m6.c) rfl (T.no "Ways" "rest") hF.rst H7 e7 Q0 q0) pd (by omega) fun pv Hs7 H7 f7 p7 => ?_
      have S7 := S6.fw f7
      have r3 : DpAll K Hs7 (rs ++ [pv]) ((W.rest ++ [(st, v)]).map dPr) := by
        rw [List.map_append]
        exact dps_app (dps_ex f7.b r2) (dps_one p7)
      refine kQ Hs7 _ (m6.trans (f7.m.trans (Fm.mut f7.c S7.nr))) (S7.setR r3) fun b' o h1 h2 h3 h4 => ?_
      rw [upd_ne h3]
      refine f7.a _ _ ?_
      rw [upd_ne h2]
      exact f5.a _ _ (fr4 b' o h1 h2 h3 h4)
end
end K02
set_option Elab.async false
set_option linter.all false
set_option maxRecDepth 100000
set_option maxHeartbeats 1000000
/-! ### Ways.__init__ -/
namespace K02
open PySem PySem.Spec PyProof.Rows L2 Evl
theorem FnOk.r {P : Program} {w : World} {K : PySem.W.Frag} {mg : Str → Option Value} {base : Heap} {CX : CXT} {k : Nat} {f : Addr} {fd : FuncData} {ps : List Str} {sp : Sp} (F : FnOk P w K mg base CX k f fd ps sp) (hb : Binds K fd ps []) : FnR P w K mg base CX k f sp :=
  (F.raw hb .nil).imp fun vs H Q E h => by rw [List.append_nil]; exact h
/-- o.m(e, ..), m a field that holds an instance of D -/
def tMethI (X : Cx) (C : Addr) (m : Str) (D : Addr) (sp : Sp) (E : XK) (ta : TE) (t : TA) : TE := fun σ H Q => ta σ H fun x H1 => ∃ a dx fs b, x = .ref a ∧ H1 a = some (.ins C dx fs) ∧ fs.lookup m = some (.ref b) ∧ t σ H1 fun vs H2 => StX.InsC X H2 b D ∧ sp (.ref b :: vs) H2 Q E
section
variable {X : Cx} {CX : CXT} {C D g : Addr} {k : Nat} {m : Str} {sp : Sp} {E : XK} {o e : Expr} {es : List Expr} {ta : TE} {t : TA} {apos pos : Pos}
theorem pe_methI {pl : Sem Bool} (he : PE X o ta) (c : Cls X.K C) (n : NoAttr X.K C m) (cc : StX.CallO X.K D g) (F : FnR X.prog X.w X.K X.mg X.base CX k g sp) (hr : Room k X.A) (hx : Passes CX X E) (ha : PA X (e :: es) t)
    (hst : starEach (e :: es) X.env = (false, eval e X.env) :: starEach es X.env := by rfl) (hpl : (backTo pos (starEach es X.env)).any (·.1) = false := by rfl)
    (ht : eval (.Call (.Attribute o m apos) (e :: es) [] pos) X.env = (do
      let ov ← eval o X.env
      standAt apos.atName
      let (f, first) ← holding [ov] (getMethod ov m pl)
      callWith pos f first (backTo pos (starEach (e :: es) X.env)) (backToKw pos (keywordEach [] X.env))) := by rfl) :
    PE X (.Call (.Attribute o m apos) (e :: es) [] pos) (tMethI X C m D sp E ta t) := by
  refine ⟨fun pins s σ H Q I h => ?_⟩
  refine PySem.W.methodCall_KW (pl := pl) (thn (he.run pins s σ H _ I h) fun u s1 ⟨x, H1, I1, rx, a, dx, fs, b, ex, ea, l, q⟩ => ?_) ht
  subst ex
  obtain rfl : u = Value.ref a := rx
  refine getmeth_fld I1 ea c n l fun u2 s2 I2 ru => ?_
  obtain rfl : u2 = Value.ref b := ru
  refine StX.callO_with (thn (ha.run pos pins s2 σ H1 _ I2 q) fun us s3 ⟨vs, H2, I3, r, hi, q2⟩ => ?_) hst hpl
  obtain ⟨ox, od, J, hd⟩ := StX.insC_at I3 hi
  exact ⟨⟨D, ox, od, J, hd⟩, StX.run_callO cc F hr hx I3 hi r q2⟩
end
section
variable {K : PySem.W.Frag} {P : Program} {w : World} {mg : Str → Option Value} {σ : L2.St} {H Hs : Hp} {te ta tn tv : TE} {C x dx : Addr} {D : Ends}
theorem evd_rep0 {n : Nat} (hn : Ev tn σ H (.int (n : Int))) (hz : n ≤ 1000) : EvD K (tOp rRep (tLst (tCons (tC (.int 0)) tNil)) tn) σ H (.list (List.replicate n (.int 0))) := fun Hs H1 a b Q q =>
  ⟨by show 1 ≤ sizeLine; decide, fun p hp => hn _ ((a.trans b).trans (Ex.new hp)) _ fun H2 e2 => ⟨p, n, [.int 0], rfl, rfl, e2 p _ upd_same, by omega, by omega, by rw [Int.toNat_natCast, List.length_singleton, Nat.one_mul]; exact sz_of (by omega), fun l hl => by
    have fw : Fw Hs H1 Hs H2 := Fw.skip b ((Ex.new hp).trans e2)
    have e : (List.replicate ((n : Int)).toNat [V.int 0]).flatten = List.replicate n (V.int 0) := by
      rw [Int.toNat_natCast]
      have : ∀ m : Nat, (List.replicate m [V.int 0]).flatten = List.replicate m (V.int 0) := fun m => by
        induction m with
        | zero => rfl
        | succ m ih => rw [List.replicate_succ, List.flatten_cons, ih, List.replicate_succ]; rfl
      exact this n
    rw [e]
    have d0 : ∀ m : Nat, DpAll K (upd Hs l (.lst (List.replicate n (V.int 0)))) (List.replicate m (V.int 0)) (List.replicate m (PyData.int 0)) := fun m => by
      induction m with
      | zero => exact .nil
      | succ m ih => exact .cons (.int 0) ih
    exact q _ _ _ (fw.trans (Fw.new fw.c hl)) (.lst (sq_of upd_same) (d0 n))⟩⟩
theorem y_fldNew {mk : Addr → HO} {f : Str} {fs : List (Str × V)} (htv : ∀ σ H Q, (∀ p, H p = none → Q (.ref p) (upd H p (mk p))) → tv σ H Q) (hs : σ[0]? = some (some (.ref x))) (hx : H x = some (.ins C dx fs)) (c : Cls K C) (n : NoAttr K C f) (hl : fs.length < 1000)
    (k : ∀ p, H p = none → D.nx σ (upd (upd H p (mk p)) x (.ins C dx (putF f (.ref p) fs)))) : sFld K (tVar 0) tv f D σ H :=
  htv _ _ _ fun p hp => ⟨.ref x, hs, x, C, dx, fs, rfl, by rw [upd_ne (ne_of_none hx hp)]; exact hx, c, n, hl, k p hp⟩
end
/-! bounds -/
theorem WInv.hnd {M : Mac} {lims : List (Option Int)} {W : WS} {done : Nat} (I : WInv M lims W done) (s : Int) : (W.held s).Nodup := (I.anti s).imp fun {a b} h e => by
  subst e
  rw [below_refl] at h
  exact absurd h.1 (by decide)
theorem WInv.hle {M : Mac} (O : MOk M) {lims : List (Option Int)} {W : WS} {done : Nat} (I : WInv M lims W done) (s : Int) : (W.held s).length ≤ 256 := by
  have h := nodup_le (l := (W.held s).map fun v => (s, v)) (m := W.rest) (List.Pairwise.map _ (fun a b h e => h (Prod.mk.inj e).2) (I.hnd s)) fun p hp => by
    obtain ⟨v, hv, rfl⟩ := List.mem_map.mp hp
    exact I.hr s v hv
  rw [List.length_map] at h
  exact Nat.le_trans h (rest_le O I)
theorem WInv.cle {M : Mac} (O : MOk M) {lims : List (Option Int)} {W : WS} {done : Nat} (I : WInv M lims W done) : W.costs.length ≤ 4 := by
  have h := nodup_le (m := (List.range M.many).map fun i : Nat => (i : Int)) I.nd fun s hs => by
    obtain ⟨i, rfl, hi⟩ := I.keys s hs
    exact List.mem_map.mpr ⟨i, List.mem_range.mpr hi, rfl⟩
  rw [List.length_map, List.length_map, List.length_range] at h
  exact Nat.le_trans h O.small
theorem WInv.ole {M : Mac} (O : MOk M) {lims : List (Option Int)} {W : WS} {done : Nat} (I : WInv M lims W done) : W.orig.length ≤ 256 := by
  have h := congrArg List.length I.ok
  rw [List.length_map] at h
  rw [h]
  exact rest_le O I
/-! a part without an instance -/
def rmA (H : Hp) (x : Addr) : Hp := fun b => if b = x then none else H b
theorem rmA_ne {H : Hp} {x b : Addr} (h : b ≠ x) : rmA H x b = H b := by unfold rmA; rw [if_neg h]
theorem rmA_same {H : Hp} {x : Addr} : rmA H x x = none := by unfold rmA; rw [if_pos rfl]
def Exd (H H' : Hp) : Prop := ∀ a o, H a = some o → H' a = some o ∨ ∃ C dx fs, o = .ins C dx fs
theorem exd_l {K : PySem.W.Frag} {H H' : Hp} {a : Addr} {xs : List V} (e : Exd H H') (h : SqL K H a xs) : SqL K H' a xs := by
  rcases h with (h | ⟨o, h⟩) | h
  · rcases e _ _ h with q | ⟨_, _, _, q⟩
    · exact .inl (.inl q)
    · cases q
  · rcases e _ _ h with q | ⟨_, _, _, q⟩
    · exact .inl (.inr ⟨o, q⟩)
    · cases q
  · exact .inr h
theorem exd_t {K : PySem.W.Frag} {H H' : Hp} {a : Addr} {xs : List V} (e : Exd H H') (h : SqT K H a xs) : SqT K H' a xs := by
  rcases h with (h | ⟨o, h⟩) | h
  · rcases e _ _ h with q | ⟨_, _, _, q⟩
    · exact .inl (.inl q)
    · cases q
  · rcases e _ _ h with q | ⟨_, _, _, q⟩
    · exact .inl (.inr ⟨o, q⟩)
    · cases q
  · exact .inr h
mutual
theorem dp_exd {K : PySem.W.Frag} {H H' : Hp} (e : Exd H H') : ∀ {v : V} {d : PyData}, Dp K H v d → Dp K H' v d
  | _, _, .non => .non
  | _, _, .bl b => .bl b
  | _, _, .int i => .int i
  | _, _, .str x => .str x
  | _, _, .lst h t => .lst (exd_l e h) (dps_exd e t)
  | _, _, .tup h t => .tup (exd_t e h) (dps_exd e t)
theorem dps_exd {K : PySem.W.Frag} {H H' : Hp} (e : Exd H H') : ∀ {vs : List V} {ds : List PyData}, DpAll K H vs ds → DpAll K H' vs ds
  | _, _, .nil => .nil
  | _, _, .cons h t => .cons (dp_exd e h) (dps_exd e t)
end
theorem entD_exd {K : PySem.W.Frag} {H H' : Hp} (e : Exd H H') {kvs : List (Key × V)} {ents : List (Int × PyData)} (h : EntD K H kvs ents) : EntD K H' kvs ents := by
  unfold EntD at h ⊢
  induction h with
  | nil => exact .nil
  | cons r t ih => exact .cons ⟨r.1, dp_exd e r.2⟩ ih
theorem orD_exd {K : PySem.W.Frag} {H H' : Hp} (e : Exd H H') {xs : NX} {l : List ((Int × Vec) × Option (Int × Vec × Stp))} (h : OrD K H xs l) : OrD K H' xs l := by
  unfold OrD at h ⊢
  induction h with
  | nil => exact .nil
  | cons r t ih => exact .cons ⟨r.1, dp_exd e r.2⟩ ih
section
variable {K : PySem.W.Frag} {P : Program} {w : World} {mg : Str → Option Value} {σ : L2.St} {H Hs : Hp} {ta : TA} {D : Ends} {M : Mac} {t : Bool} {lims : List (Option Int)} {A : WAd} {W : WS} {done : Nat}
theorem y_offerM {E : XK} {s : Int} {v : Vec} {og : Option (Int × Vec × Stp)} (O : MOk M) (I : WInv M lims W done) (hF : WFix K M t lims A Hs) (S : WSt K P w A W Hs H) (e : Ex Hs H) (hs : σ[0]? = some (some (.ref A.x))) (hv : v.length = M.kinds.length)
    (ha : EvAP ta σ Hs (fun vs H2 => ∃ y z, vs = [.int s, y, z] ∧ Dp K H2 y (dV v) ∧ Dp K H2 z (dOg og)))
    (k : ∀ Hs2 H2, Fm Hs H Hs2 H2 → WSt K P w A (offerW lims W s v og) Hs2 H2 → (∀ b u, b ≠ A.c → b ≠ A.o → b ≠ A.r → H b = some u → H2 b = some u) → D.nx σ H2) : tDrop (tMeth (He.ga K "Ways") "offer" (spOffer K P w) [] E (tVar 0) ta) D σ H :=
  ⟨.ref A.x, hs, A.x, A.dx, A.fs, rfl, e _ _ hF.hx, hF.nat.1, ha Hs H (Ex.refl _) e _ fun vs Hs1 H1 f1 hv' => by
    obtain ⟨y, z, rfl, h1, h2⟩ := hv'
    have l3 := O.few
    refine ⟨M, t, lims, A, W, Hs1, y, z, s, v, og, rfl, f1.c, hF.ex f1.b, S.fw f1, h1, h2, Nat.le_trans (I.cle O) (by decide), Nat.le_trans (I.ole O) (by decide), Nat.le_trans (rest_le O I) (by decide), by rw [hv]; omega, fun s u hu => by rw [I.hlen s u hu]; omega, fun s => Nat.le_trans (I.hle O s) (by decide), fun Hs2 H2 f2 S2 fr => k Hs2 H2 (f1.m.trans f2) S2 fun b u b1 b2 b3 hb => fr b u b1 b2 b3 (f1.a _ _ hb)⟩⟩
end
theorem stepsW_snoc (M : Mac) (lims : List (Option Int)) (W : WS) (s : Int) (v : Vec) (sts : List Stp) (st : Stp) : stepsW M lims W s v (sts ++ [st]) = offerW lims (stepsW M lims W s v sts) st.go (bump M.kinds v st.ki) (some (s, v, st)) := by
  unfold stepsW
  rw [List.foldl_append]
  rfl
theorem shaped_Vs (l : List Vec) : SeqAt.shaped (.list (l.map dV)) = true := by
  have h1 : ∀ l : List Vec, PyData.canLayAll0 (l.map dV) = true := fun l => by
    induction l with
    | nil => simp [PyData.canLayAll0]
    | cons a l ih =>
      show PyData.canLayAll0 (dV a :: l.map dV) = true
      rw [PyData.canLayAll0, ih, SeqAt.canLay_of_shaped (shaped_V a)]
      rfl
  have h2 : ∀ l : List Vec, PyData.depthAll (l.map dV) ≤ 1 := fun l => by
    induction l with
    | nil => simp [PyData.depthAll]
    | cons a l ih =>
      show PyData.depthAll (dV a :: l.map dV) ≤ 1
      rw [PyData.depthAll]
      refine Nat.max_le.mpr ⟨?_, ih⟩
      unfold dV
      rw [PyData.depth, PySem.W.depth_ints]
      exact Nat.le_refl _
  have h3 := h2 l
  unfold SeqAt.shaped
  rw [PyData.canLay0, h1, PyData.depth, Bool.true_and, decide_eq_true_iff]
  omega
theorem any_eqv_V (l : List Vec) (a : Vec) : ((l.map dV).any fun z => PyData.eqv z (dV a)) = decide (a ∈ l) := by
  rw [List.any_map, Bool.eq_iff_iff, List.any_eq_true, decide_eq_true_iff]
  constructor
  · rintro ⟨x, hx, e⟩
    have e' : PyData.eqv (dV x) (dV a) = true := e
    rw [eqv_V, decide_eq_true_iff] at e'
    exact e' ▸ hx
  · intro h
    refine ⟨a, h, ?_⟩
    show PyData.eqv (dV a) (dV a) = true
    rw [eqv_V]
    simp
/-- what a finished Ways is -/
structure WDone (M : Mac) (lims : List (Option Int)) (W : WS) : Prop where
  inv : WInv M lims W W.rest.length
  start : belowO (zeroV M.kinds) lims = true → ∃ u ∈ W.held 0, below u (zeroV M.kinds) = true
theorem fw_skip {Hs H H2 : Hp} (a : Ex Hs H) (b : Ex H H2) : Fw Hs H Hs H2 := Fw.skip a b
def WaysAt (K : PySem.W.Frag) (P : Program) (w : World) (M : Mac) (lims : List (Option Int)) (W : WS) (v : V) (H : Hp) : Prop := ∃ t A, v = .ref A.x ∧ WFix K M t lims A H ∧ (∃ kvs, H A.c = some (.dK kvs) ∧ EntD K H kvs (costsD W.costs)) ∧ ∃ xs, H A.o = some (NdO P w A.o xs) ∧ NdK K H xs ∧ OrD K H xs W.orig
abbrev wFs (m l a : V) (c o r : Addr) : List (Str × V) := [("machine", m), ("limits", l), ("after", a), ("costs", .ref c), ("origins", .ref o), ("rest", .ref r)]
def WFinD (K : PySem.W.Frag) (P : Program) (w : World) (M : Mac) (t : Bool) (lims : List (Option Int)) (fs : List (Str × V)) (H : Hp) : Prop := ∃ (W : WS) (m l a : V) (c o r : Addr), WDone M lims W ∧ fs = wFs m l a c o r ∧ MacAt K M m H ∧ Dp K H l (dSeq t (lims.map dO)) ∧ AddAt K M.kinds a H ∧
  (∃ kvs, H c = some (.dK kvs) ∧ EntD K H kvs (costsD W.costs)) ∧ ∃ xs, H o = some (NdO P w o xs) ∧ NdK K H xs ∧ OrD K H xs W.orig
def rWays (K : PySem.W.Frag) (P : Program) (w : World) : List V → Hp → (List (Str × V) → Hp → Prop) → Prop := fun rest Hs Fin => ∃ m l M t lims, rest = [m, l] ∧ MacAt K M m Hs ∧ MOk M ∧ Dp K Hs l (dSeq t (lims.map dO)) ∧ ∀ fs H2, WFinD K P w M t lims fs H2 → Fin fs H2
abbrev wF1 (m : V) : List (Str × V) := [("machine", m)]
abbrev wF2 (m l : V) : List (Str × V) := [("machine", m), ("limits", l)]
abbrev wF3 (m l a : V) : List (Str × V) := [("machine", m), ("limits", l), ("after", a)]
abbrev wF4 (m l a : V) (c : Addr) : List (Str × V) := [("machine", m), ("limits", l), ("after", a), ("costs", .ref c)]
abbrev wF5 (m l a : V) (c o : Addr) : List (Str × V) := [("machine", m), ("limits", l), ("after", a), ("costs", .ref c), ("origins", .ref o)]
theorem wf1 (m : V) : putF "machine" m [] = wF1 m := rfl
theorem wf2 (m l : V) : putF "limits" l (wF1 m) = wF2 m l := by rfl
theorem wf3 (m l a : V) : putF "after" a (wF2 m l) = wF3 m l a := by rfl
theorem wf4 (m l a : V) (c : Addr) : putF "costs" (.ref c) (wF3 m l a) = wF4 m l a c := by rfl
theorem wf5 (m l a : V) (c o : Addr) : putF "origins" (.ref o) (wF4 m l a c) = wF5 m l a c o := by rfl
theorem wf6 (m l a : V) (c o r : Addr) : putF "rest" (.ref r) (wF5 m l a c o) = wFs m l a c o r := by rfl
/-- the new instance while its fields are set -/
structure Ini (C dx x : Addr) (fs : List (Str × V)) (Hs H Hs' H' : Hp) : Prop where
  fm : Fm Hs H Hs' H'
  fr : ∀ b o, b ≠ x → H b = some o → H' b = some o
  nx : Hs' x = none
  hx : H' x = some (.ins C dx fs)
section
variable {C dx x : Addr} {fs : List (Str × V)} {Hs H Hs' H' Hs1 H1 : Hp}
theorem Ini.fw (I : Ini C dx x fs Hs H Hs' H') (f : Fw Hs' H' Hs1 H1) : Ini C dx x fs Hs H Hs1 H1 := ⟨I.fm.trans f.m, fun b o hb h => f.a _ _ (I.fr b o hb h), f.d _ _ I.hx I.nx, f.a _ _ I.hx⟩
theorem Ini.put (I : Ini C dx x fs Hs H Hs' H') (g : Str) (v : V) : Ini C dx x (putF g v fs) Hs H Hs' (upd H' x (.ins C dx (putF g v fs))) := ⟨I.fm.trans (Fm.mut I.fm.c I.nx), fun b o hb h => by rw [upd_ne hb]; exact I.fr b o hb h, I.nx, upd_same⟩
theorem Ini.fld (I : Ini C dx x fs Hs H Hs' H') (f : Fw Hs' H' Hs1 H1) (g : Str) (v : V) : Ini C dx x (putF g v fs) Hs H Hs1 (upd H1 x (.ins C dx (putF g v fs))) := (I.fw f).put g v
theorem Ini.new {p : Addr} {o : HO} (I : Ini C dx x fs Hs H Hs' H') (hp : H' p = none) : Ini C dx x fs Hs H Hs' (upd H' p o) := I.fw (Fw.skip I.fm.c (Ex.new hp))
end
section
variable {P : Program} {w : World} {K : PySem.W.Frag} {mg : Str → Option Value} {base : Heap}
abbrev NWI : List Str := ["self", "machine", "limits", "start", "done", "state", "vector", "step"]
theorem scWaysI : FnScope NWI ["self", "machine", "limits"] (defScope sWaysI) := ⟨rfl, rfl, rfl, by decide +kernel, rfl, by decide +kernel, by decide +kernel⟩
theorem ok_waysI (T : G K mg) : Ok P w K mg base CX0 4 (He.ma K (He.ga K "Ways") "__init__") ["self", "machine", "limits"] (spInit (He.ga K "Ways") (rWays K P w)) := by
  obtain ⟨fd, F⟩ := T.funM 16
  obtain ⟨fdA, GA, bA, kA⟩ := ok_addI (P := P) (w := w) (base := base) T
  obtain ⟨fdC, GC, bC, kC⟩ := ok_addC (P := P) (w := w) (base := base) T
  obtain ⟨fdO, GO, bO, kO⟩ := ok_offer (P := P) (w := w) (base := base) T
  refine ok_of F scWaysI (fun vs H Q E h => ?_) (fun _ _ _ _ _ _ us hl => match us, hl with | [_, _, _], _ => rfl) fun cdv A outer s H vs Q E hr h => ?_
  · obtain ⟨_, _, _, _, _, rfl, _, _, _, ⟨_, _, _, _, _, rfl, _⟩, _⟩ := h
    rfl
  · obtain ⟨Hs, x, dx, rest, Fin, rfl, hx, hsx, eH, ⟨m, l, M, t, lims, rfl, hm, O, hl, hF⟩, kQ⟩ := h
    refine ⟨_, pss_cons (ps_fld (pv 0) (pv 1) rfl) (pss_cons (ps_fld (pv 0) (pv 2) rfl)
      (pss_cons (ps_fld (pv 0) (pe_make (T.make "Adder") GA (hr.mono (by decide)) rfl (T.gl "Adder") bA .nil pass0 (pa_cons (pv 1) pa_nil)) rfl)
      (pss_cons (ps_fld (pv 0) pe_dnewK rfl) (pss_cons (ps_fld (pv 0) pe_dnewN rfl)
      (pss_cons (ps_set (i := 3) scWaysI.nd rfl (Or.inl rfl) (pe_callTy call_tuple_of rfl (T.fr "tuple") (by decide +kernel) (pa_cons (pe_op op_rep (pe_lst (pa_cons pe_int pa_nil)) (pe_callB call_len_seq rfl (T.fr "len") (by decide +kernel) (pa_cons (pe_fld (pv 1) rfl) pa_nil))) pa_nil)))
      (pss_cons (ps_fld (pv 0) (pe_lst pa_nil) rfl)
      (pss_cons (ps_expr (pe_meth (pv 0) (T.cl "Ways") (T.me "Ways" "offer") GO hr bO .nil pass0 (pa_cons pe_int (pa_cons (pv 3) (pa_cons pe_non pa_nil)))))
      (pss_cons (ps_set (i := 4) scWaysI.nd rfl (Or.inl rfl) pe_int)
      (pss_one (ps_while PassesOwn.never (pt_cmpR op_lt (pv 4) (pe_callB call_len_seq rfl (T.fr "len") (by decide +kernel) (pa_cons (pe_fld (pv 0) rfl) pa_nil)) (nomark _))
        (pss_cons (ps_asg (pe_ix ix_list (pe_fld (pv 0) rfl) (pv 4) (fun _ _ => rfl)) (pg_tup rfl (pgs_cons (pg_name (i := 5) scWaysI.nd rfl (Or.inl rfl)) (pgs_cons (pg_name (i := 6) scWaysI.nd rfl (Or.inl rfl)) pgs_nil))))
        (pss_cons (ps_aug (i := 4) scWaysI.nd rfl (Or.inl rfl) pe_int ip_add)
        (pss_one (ps_if (pt_cmpR (op_inD (room_65 hr)) (pv 6) (pe_dget (room_1 hr) (pe_fld (pv 0) rfl) (pv 5) (fun _ _ => rfl)) rfl)
          (pss_one (ps_for PassesOwn.never rfl (pi_list (pe_dget (room_1 hr) (pe_fld (pv 1) rfl) (pv 5) (fun _ _ => rfl))) (pg_name (i := 7) scWaysI.nd rfl (Or.inl rfl))
            (pss_one (ps_expr (pe_meth (pv 0) (T.cl "Ways") (T.me "Ways" "offer") GO hr bO .nil pass0
              (pa_cons (pe_ix ix_tup (pv 7) pe_int (fun _ _ => rfl)) (pa_cons (pe_methI (pv 0) (T.cl "Ways") (T.no "Ways" "after") T.call (FnOk.r GC bC) (hr.mono (by decide)) pass0 (pa_cons (pv 6) (pa_cons (pv 7) pa_nil)))
              (pa_cons (pe_tup (pa_cons (pv 5) (pa_cons (pv 6) (pa_cons (pv 7) pa_nil)))) pa_nil))))))))
          pss_nil)))))))))))))), ?_⟩
    have cl := T.cl "Ways"
    have I0 : Ini (He.ga K "Ways") dx x [] Hs H Hs H := ⟨Fm.refl eH, fun _ _ _ h => h, hsx, hx⟩
    refine y_fld (P := fun v _ => v = m) (evp_of (ev_var rfl) fun _ _ => rfl) eH rfl hx cl (T.no "Ways" "machine") (by decide) fun v1 Hs1 H1 f1 e1 => ?_
    subst e1
    have I1 := I0.fld f1 "machine" v1
    rw [wf1] at I1 ⊢
    dsimp only
    refine y_fld (P := fun v _ => v = l) (evp_of (ev_var rfl) fun _ _ => rfl) I1.fm.c rfl I1.hx cl (T.no "Ways" "limits") (by show 1 < 1000; decide) fun v2 Hs2 H2 f2 e2 => ?_
    subst e2
    have I2 := I1.fld f2 "limits" v2
    rw [wf2] at I2 ⊢
    dsimp only
    have hm2 : MacAt K M v1 Hs2 := hm.ex I2.fm.b
    refine y_fld (P := AddAt K M.kinds) ((evp_make (R := rAddI K) (RA := fun vs H2 => ∃ y, vs = [y] ∧ MacAt K M y H2) (Fin := fun fs H2 => ∃ sp, fs.lookup ("spots" : Str) = some sp ∧ DkAt K (spotsE M.kinds) sp H2) (fun Hs' H' a b Q q => ev_var (i := 1) (v := v1) rfl H' (a.trans b) _ fun H3 e3 => q [v1] Hs' H3 (Fw.skip b e3) ⟨v1, rfl, hm2.ex a⟩)
      (fun vs Hs Hs' _ e h => by
        obtain ⟨y, rfl, hy⟩ := h
        exact ⟨y, M, rfl, hy.ex e, O.knd, Nat.le_trans O.few (by decide), fun fs H2 h => h⟩) (fun fs H1 H2 e h => by
        obtain ⟨sp, h1, h2⟩ := h
        exact ⟨sp, h1, h2.ex e⟩)).imp fun v H2 _ h => by
        obtain ⟨a, dx, fs, h1, h2, sp, h3, h4⟩ := h
        exact ⟨a, dx, fs, sp, h1, h2, h3, h4.r⟩) I2.fm.c rfl I2.hx cl (T.no "Ways" "after") (by show 2 < 1000; decide) fun va Hs3 H3 f3 ha => ?_
    have I3 := I2.fld f3 "after" va
    rw [wf3] at I3 ⊢
    dsimp only
    refine y_fldNew (K := K) (mk := fun _ => .dK []) (fun _ _ _ h => h) rfl I3.hx cl (T.no "Ways" "costs") (by show 3 < 1000; decide) fun c hc => ?_
    have I4 := (I3.new (o := .dK []) hc).put "costs" (.ref c)
    rw [wf4] at I4 ⊢
    have xc : c ≠ x := fun z => by rw [z, I3.hx] at hc; cases hc
    dsimp only
    refine y_fldNew (K := K) (mk := fun p => NdO P w p []) (fun _ _ _ h => h) rfl I4.hx cl (T.no "Ways" "origins") (by show 4 < 1000; decide) fun o ho => ?_
    have I5 := (I4.new (o := NdO P w o []) ho).put "origins" (.ref o)
    rw [wf5] at I5 ⊢
    have xo : o ≠ x := fun z => by rw [z, I4.hx] at ho; cases ho
    have oc : c ≠ o := fun z => by rw [← z, upd_ne xc, upd_same] at ho; cases ho
    dsimp only
    have hm5 : MacAt K M v1 Hs3 := hm2.ex f3.b
    have lk : Ev (tCB (fun xs H Q => ∃ p ys, xs = [.ref p] ∧ (SqL K H p ys ∨ SqT K H p ys) ∧ Q (.int ys.length) H) (tCons (tFld K (tVar 1) "kinds") tNil)) (start NWI [.ref x, v1, v2]) Hs3 (.int (M.kinds.length : Int)) := by
      have := ev_lenD (t := false) (evd_kinds T (evp_mac (i := 1) (σ := start NWI [.ref x, v1, v2]) (v := v1) rfl hm5))
      rw [List.length_map] at this
      exact this
    refine y_asg (evd_tupleOf (evd_rep0 lk (Nat.le_trans O.few (by decide)))) I5.fm.c fun sv Hs6 H6 f6 hsv => ?_
    have I6 := I5.fw f6
    dsimp only
    refine y_fldNew (K := K) (mk := fun _ => .lst []) (fun _ _ _ h => ⟨Nat.zero_le _, h⟩) rfl I6.hx cl (T.no "Ways" "rest") (by show 5 < 1000; decide) fun r hr0 => ?_
    have I7 := (I6.new (o := .lst []) hr0).put "rest" (.ref r)
    rw [wf6] at I7 ⊢
    have xr : r ≠ x := fun z => by rw [z, I6.hx] at hr0; cases hr0
    have h5c : (upd (upd (upd (upd (upd H3 x (.ins (He.ga K "Ways") dx (wF3 v1 v2 va))) c (.dK [])) x (.ins (He.ga K "Ways") dx (wF4 v1 v2 va c))) o (NdO P w o [])) x (.ins (He.ga K "Ways") dx (wF5 v1 v2 va c o))) c = some (.dK []) := by
      rw [upd_ne xc, upd_ne oc, upd_ne xc, upd_same]
    have h5o : (upd (upd (upd (upd (upd H3 x (.ins (He.ga K "Ways") dx (wF3 v1 v2 va))) c (.dK [])) x (.ins (He.ga K "Ways") dx (wF4 v1 v2 va c))) o (NdO P w o [])) x (.ins (He.ga K "Ways") dx (wF5 v1 v2 va c o))) o = some (NdO P w o []) := by
      rw [upd_ne xo, upd_same]
    have h6c := f6.a _ _ h5c
    have h6o := f6.a _ _ h5o
    have c0 : H c = none := I3.fm.a c hc
    have o0 : H o = none := I4.fm.a o ho
    have r0 : H r = none := I6.fm.a r hr0
    have s6c : Hs6 c = none := f6.d _ _ h5c (fresh_back I3.fm.c hc)
    have s6o : Hs6 o = none := f6.d _ _ h5o (fresh_back I4.fm.c ho)
    have s6r : Hs6 r = none := fresh_back I6.fm.c hr0
    obtain ⟨H7, e7⟩ : ∃ H7, H7 = upd (upd H6 r (.lst [])) x (.ins (He.ga K "Ways") dx (wFs v1 v2 va c o r)) := ⟨_, rfl⟩
    have h7c : H7 c = some (.dK []) := by rw [e7, upd_ne xc, upd_ne (ne_of_none h6c hr0)]; exact h6c
    have h7o : H7 o = some (NdO P w o []) := by rw [e7, upd_ne xo, upd_ne (ne_of_none h6o hr0)]; exact h6o
    have h7r : H7 r = some (.lst []) := by rw [e7, upd_ne xr, upd_same]
    rw [← e7] at I7 ⊢
    -- the part that knows the instance
    let A : WAd := ⟨x, dx, c, o, r, wFs v1 v2 va c o r⟩
    have eb : Ex Hs6 (upd Hs6 x (.ins (He.ga K "Ways") dx (wFs v1 v2 va c o r))) := Ex.new I7.nx
    have x36 : Ex Hs3 Hs6 := f6.b
    have b7 : Ex (upd Hs6 x (.ins (He.ga K "Ways") dx (wFs v1 v2 va c o r))) H7 := fun b u hb => by
      by_cases q : b = x
      · subst q; rw [upd_same] at hb; rw [← hb]; exact I7.hx
      · rw [upd_ne q] at hb; exact I7.fm.c b u hb
    have F7 : WFix K M t lims A (upd Hs6 x (.ins (He.ga K "Ways") dx (wFs v1 v2 va c o r))) := ⟨upd_same, ⟨v1, rfl, hm5.ex (x36.trans eb)⟩, ⟨v2, rfl, dp_ex (I7.fm.b.trans eb) hl⟩, ⟨va, rfl, ha.ex (x36.trans eb)⟩, rfl, rfl, rfl, rfl, rfl, rfl, rfl, rfl⟩
    have S7 : WSt K P w A WS.nil (upd Hs6 x (.ins (He.ga K "Ways") dx (wFs v1 v2 va c o r))) H7 := ⟨⟨[], h7c, .nil⟩, ⟨[], h7o, (fun y hy => absurd hy (by simp)), .nil⟩, ⟨[], h7r, .nil⟩, by rw [upd_ne xc]; exact s6c, by rw [upd_ne xo]; exact s6o, by rw [upd_ne xr]; exact s6r⟩
    have hsv7 : Dp K (upd Hs6 x (.ins (He.ga K "Ways") dx (wFs v1 v2 va c o r))) sv (dV (zeroV M.kinds)) := by
      have e : dV (zeroV M.kinds) = .tuple (List.replicate M.kinds.length (.int 0)) := by unfold dV zeroV; rw [List.map_replicate]
      rw [e]
      exact dp_ex eb hsv
    have hm7 : MacAt K M v1 (upd Hs6 x (.ins (He.ga K "Ways") dx (wFs v1 v2 va c o r))) := hm5.ex (x36.trans eb)
    -- the end, from any later state
    have fin : ∀ (W : WS) (Hs' H' : Hp), WDone M lims W → Fm (upd Hs6 x (.ins (He.ga K "Ways") dx (wFs v1 v2 va c o r))) H7 Hs' H' → WSt K P w A W Hs' H' → WFix K M t lims A Hs' → (∀ b u, b ≠ c → b ≠ o → b ≠ r → H7 b = some u → H' b = some u) → Q .non H' := by
      intro W Hs' H' hW f S F7' fr
      obtain ⟨kvs, k1, k2⟩ := S.c
      obtain ⟨xs, o1, o2, o3⟩ := S.o
      have ex : Exd Hs' (rmA Hs' x) := fun a u hu => by
        by_cases q : a = x
        · subst q
          rw [F7'.hx] at hu
          cases hu
          exact .inr ⟨_, _, _, rfl⟩
        · exact .inl (by rw [rmA_ne q]; exact hu)
      have nc : (rmA Hs' x) c = none := by rw [rmA_ne xc]; exact S.nc
      have no : (upd (rmA Hs' x) c (.dK kvs)) o = none := by rw [upd_ne (Ne.symm oc), rmA_ne xo]; exact S.no
      have e2 : Ex (rmA Hs' x) (upd (upd (rmA Hs' x) c (.dK kvs)) o (NdO P w o xs)) := (Ex.new nc).trans (Ex.new no)
      have ex6 : Ex Hs6 (rmA Hs' x) := fun b u hb => by
        rw [rmA_ne (ne_of_none hb I7.nx)]
        exact f.b _ _ (eb _ _ hb)
      refine kQ (upd (upd (rmA Hs' x) c (.dK kvs)) o (NdO P w o xs)) H' _ ⟨fun y hy => I7.fm.a y (f.a y hy), I7.fm.b.trans (ex6.trans e2), fun b u hb => ?_, fun y u hy n => ?_⟩ (f.c _ _ (f.b _ _ upd_same)) (fun b u hb h => ?_) (hF _ _ ⟨W, v1, v2, va, c, o, r, hW, rfl, hm5.ex (x36.trans (ex6.trans e2)), dp_ex (I7.fm.b.trans (ex6.trans e2)) hl, ha.ex (x36.trans (ex6.trans e2)), ⟨kvs, by rw [upd_ne oc]; exact upd_same, entD_ex e2 (entD_exd ex k2)⟩, xs, upd_same, fun y hy => ⟨dp_ex e2 (dp_exd ex (o2 y hy).1), (o2 y hy).2⟩, orD_ex e2 (orD_exd ex o3)⟩)
      · by_cases q : b = o
        · subst q; rw [upd_same] at hb; rw [← hb]; exact o1
        · rw [upd_ne q] at hb
          by_cases q2 : b = c
          · subst q2; rw [upd_same] at hb; rw [← hb]; exact k1
          · rw [upd_ne q2] at hb
            by_cases q3 : b = x
            · subst q3; rw [rmA_same] at hb; cases hb
            · rw [rmA_ne q3] at hb; exact f.c _ _ hb
      · rw [upd_ne (ne_of_none hy o0), upd_ne (ne_of_none hy c0)]
        by_cases q3 : y = x
        · subst q3; exact rmA_same
        · rw [rmA_ne q3]
          have h7 : H7 y = some u := I7.fr y u q3 hy
          exact f.d y u h7 (by rw [upd_ne q3]; exact I7.fm.d y u hy n)
      · exact fr b u (ne_of_none h c0) (ne_of_none h o0) (ne_of_none h r0) (I7.fr b u hb h)
    obtain ⟨i0, st0⟩ := start_inv O lims
    refine y_offerM (M := M) (t := t) (lims := lims) (A := A) (W := WS.nil) (done := 0) (s := 0) (v := zeroV M.kinds) (og := none) O (nil_inv M lims) F7 S7 b7 rfl (zeroV_len _) (fun Hs' H' a b Q q => ⟨sv, rfl, q [.int 0, sv, .non] Hs' H' (Fw.refl b) ⟨sv, .non, rfl, dp_ex a hsv7, .non⟩⟩) fun Hs8 H8 f8 S8 fr8 => ?_
    dsimp only
    refine y_asg (evd_c (K := K) (.int 0)) f8.c fun v9 Hs9 H9 f9 e9 => ?_
    have e9' := dp_int e9
    subst e9'
    have m9 := f8.trans f9.m
    refine y_while (fun σ Hs' H' => ∃ (W : WS) (done : Nat) (a b c' : Option V), σ = [some (.ref x), some v1, some v2, some sv, some (.int (done : Int)), a, b, c'] ∧ WFix K M t lims A Hs' ∧ WSt K P w A W Hs' H' ∧ WInv M lims W done ∧ done ≤ W.rest.length ∧ (belowO (zeroV M.kinds) lims = true → ∃ u ∈ W.held 0, below u (zeroV M.kinds) = true) ∧ Fm (upd Hs6 x (.ins (He.ga K "Ways") dx (wFs v1 v2 va c o r))) H7 Hs' H' ∧ (∀ b u, b ≠ c → b ≠ o → b ≠ r → H7 b = some u → H' b = some u))
      (fun σ _ _ m => ∃ done : Nat, σ[4]? = some (some (.int (done : Int))) ∧ m = 257 - done) m9.c ⟨startW M lims, 0, none, none, none, rfl, F7.ex m9.b, S8.fw f9, i0, Nat.zero_le _, st0, m9, fun b u h1 h2 h3 hb => f9.a _ _ (fr8 b u h1 h2 h3 hb)⟩ ⟨257, 0, rfl, rfl⟩ fun σ' Hs' H' mm fm' hM hμ => ?_
    obtain ⟨W, done, a, b, c', rfl, F', S', I', dle, sd, f', fr'⟩ := hM
    obtain ⟨done', hd', rfl⟩ := hμ
    have ed : done' = done := by
      have : (V.int (done : Int)) = .int (done' : Int) := Option.some.inj (Option.some.inj hd')
      have := V.int.inj this
      omega
    subst ed
    obtain ⟨rs, r1, r2⟩ := S'.r
    have rl : rs.length = W.rest.length := by
      have := dps_len r2
      rw [List.length_map] at this
      exact this
    have lenr : Ev (tCB (rLenS K) (tCons (tFld K (tVar 0) "rest") tNil)) [some (.ref x), some v1, some v2, some sv, some (.int (done' : Int)), a, b, c'] H' (.int (rs.length : Int)) := ev_len (ev_fld (i := 0) rfl (f'.c _ _ F'.hx) cl (T.no "Ways" "rest") rfl) (sq_of r1)
    refine ⟨decide ((done' : Int) < rs.length), et_test (ev_op (ev_var rfl) lenr rv_I0), fun hb H1 e1 => ?_, fun hb H1 e1 N hN => ?_⟩
    · have ge : done' = W.rest.length := by
        have := of_decide_eq_false hb
        omega
      subst ge
      have fw := fw_skip f'.c e1
      exact fin W Hs' H1 ⟨I', sd⟩ (f'.trans fw.m) (S'.fw fw) F' fun b u h1 h2 h3 hb => e1 _ _ (fr' b u h1 h2 h3 hb)
    · have lt : done' < W.rest.length := by
        have := of_decide_eq_true hb
        omega
      obtain ⟨s, v, hsv⟩ : ∃ s v, W.rest[done']? = some (s, v) := ⟨_, _, List.getElem?_eq_getElem lt⟩
      have hr' := List.mem_of_getElem? hsv
      have fw1 := fw_skip f'.c e1
      have S1 := S'.fw fw1
      obtain ⟨rs2, q1, q2⟩ := S1.r
      obtain ⟨pv, p1, p2⟩ := dps_get q2 (i := done') (d := dPr (s, v)) (by rw [List.getElem?_map, hsv]; rfl)
      refine y_item2 (r := r) (vs := rs2) (i := done') (a := .int s) (b := dV v) (ev_fld (i := 0) rfl (fw1.c _ _ F'.hx) cl (T.no "Ways" "rest") rfl) (ev_var rfl) q1 p1 p2 fw1.c fun y1 y2 H2 e2 d1 d2 => ?_
      have y1e := dp_int d1
      subst y1e
      dsimp only
      refine s_aug (a := (done' : Int)) (b := 1) rfl ev_c fun H3 e3 => ?_
      dsimp only
      have fw3 : Fw Hs' H' Hs' H3 := fw_skip f'.c (e1.trans (e2.trans e3))
      have S3 := S'.fw fw3
      obtain ⟨W', hW'⟩ : ∃ W', W' = turnW M lims W done' := ⟨_, rfl⟩
      obtain ⟨It, dt, kt⟩ := turn_inv O I' hsv
      have hl := I'.lens s v hr'
      obtain ⟨j, hj, hjm⟩ : ∃ i : Nat, s = (i : Int) ∧ i < M.many := I'.keys s (by
        obtain ⟨u, hu, _⟩ := I'.dom s v hr'
        refine getA_key.mp ?_
        unfold WS.held heldC at hu
        cases g : getA W.costs s with
        | none => rw [g] at hu; simp at hu
        | some z => rfl)
      -- back to the loop
      have back : ∀ (σ4 : L2.St) (Hs4 H4 : Hp) (z : Option V), σ4 = [some (.ref x), some v1, some v2, some sv, some (.int ((done' + 1 : Nat) : Int)), some (.int s), some y2, z] → Fm Hs' H3 Hs4 H4 → WFix K M t lims A Hs4 → WSt K P w A (turnW M lims W done') Hs4 H4 → (∀ b u, b ≠ c → b ≠ o → b ≠ r → H3 b = some u → H4 b = some u) → N σ4 H4 := by
        rintro σ4 Hs4 H4 z rfl f4 F4 S4 fr4
        refine hN _ Hs4 H4 (fw3.m.trans f4) ⟨turnW M lims W done', done' + 1, _, _, _, rfl, F4, S4, It, dt, fun h => kt 0 _ (zeroV_len _) (sd h), f'.trans (fw3.m.trans f4), fun b u h1 h2 h3 hb => fr4 b u h1 h2 h3 (fw3.a _ _ (fr' b u h1 h2 h3 hb))⟩ ⟨257 - (done' + 1), ?_, done' + 1, rfl, rfl⟩
        have := rest_le O I'
        omega
      obtain ⟨kvs, k1, k2⟩ := S3.c
      have look := entD_look k2 s
      have eg : entL (costsD W.costs) s = (getA W.costs s).map fun l => PyData.list (l.map dV) := getA_mapv (fun l : List Vec => PyData.list (l.map dV)) W.costs s
      obtain ⟨held, hg⟩ : ∃ held, getA W.costs s = some held := by
        obtain ⟨u, hu, _⟩ := I'.dom s v hr'
        unfold WS.held heldC at hu
        cases g : getA W.costs s with
        | none => rw [g] at hu; simp at hu
        | some z => exact ⟨z, rfl⟩
      have eh : W.held s = held := by unfold WS.held heldC; rw [hg]; rfl
      rw [eg, hg] at look
      obtain ⟨hv, hv1, hv2⟩ := look
      have tv : EvD K (tVar 6) [some (.ref x), some v1, some v2, some sv, some (.int ((done' : Int) + 1)), some (.int s), some y2, c'] H3 (dV v) := evd_var rfl (dp_ex fw3.c d2)
      have tc : EvD K (tDGet (tFld K (tVar 0) "costs") (tVar 5)) [some (.ref x), some v1, some v2, some sv, some (.int ((done' : Int) + 1)), some (.int s), some y2, c'] H3 (.list (held.map dV)) :=
        evd_dget (ents := costsD W.costs) (i := s) (evp_of (ev_fld (i := 0) rfl (fw3.c _ _ F'.hx) cl (T.no "Ways" "costs") rfl) fun H' e => ⟨c, kvs, rfl, .inl (e _ _ k1), entD_ex (fw3.c.trans e) k2⟩) (ev_var rfl) (by rw [eg, hg]; rfl)
      have t3 := et_test (ev_inD tv tc (shaped_V v) (shaped_Vs held))
      rw [any_eqv_V] at t3
      refine y_if t3 (Ex.refl _) (fun hb3 H4 e4 => ?_) fun hb3 H4 e4 => ?_
      · have hmem : v ∈ W.held s := by rw [eh]; exact of_decide_eq_true hb3
        subst hj
        have et : turnW M lims W done' = stepsW M lims W (j : Int) v (M.ways j) := by
          unfold turnW
          rw [hsv]
          dsimp only
          rw [if_pos hmem, Int.toNat_natCast]
        have fw4 : Fw Hs' H3 Hs' H4 := fw_skip fw3.c e4
        have m' : MacAt K M v1 Hs' := hm7.ex f'.b
        refine y_for (wk_listA (M.ways j) dStp (j := 7) (evd_dget (evp_ways T (evp_mac (i := 1) (σ := [some (.ref x), some v1, some v2, some sv, some (.int ((done' : Int) + 1)), some (.int (j : Int)), some y2, c']) (v := v1) rfl m')) (ev_var rfl) (waysD_at M hjm))) fw4.c
          (fun i σ5 Hs5 H5 => ∃ z, σ5 = [some (.ref x), some v1, some v2, some sv, some (.int ((done' : Int) + 1)), some (.int (j : Int)), some y2, z] ∧ WFix K M t lims A Hs5 ∧ WSt K P w A (stepsW M lims W (j : Int) v ((M.ways j).take i)) Hs5 H5 ∧ Fm Hs' H3 Hs5 H5 ∧ (∀ b u, b ≠ c → b ≠ o → b ≠ r → H3 b = some u → H5 b = some u))
          (fun Hs5 H5 f5 => ⟨c', rfl, F'.ex f5.b, (S3.fw fw4).fw f5, fw4.m.trans f5.m, fun b u _ _ _ hb => f5.a _ _ (e4 _ _ hb)⟩) (fun i σ5 Hs5 H5 hi f5 iv σ6 Hs6' H6' f6' hS N' hN' => ?_) fun σ5 Hs5 H5 f5 iv => ?_
        · obtain ⟨z, rfl, F5, S5, g5, fr5⟩ := iv
          obtain ⟨u, ⟨st, hst, p3⟩, rfl⟩ := hS
          have hstm := List.mem_of_getElem? hst
          obtain ⟨Ii, di, ki, ci⟩ := steps_inv O rfl hjm ((M.ways j).take i) W I' dle hr' fun q hq => List.mem_of_mem_take hq
          have sg : st.Good := M.wok j st hstm
          have S6 := S5.fw f6'
          have F6 := F5.ex f6'.b
          have ex6 : Ex Hs' Hs6' := g5.b.trans f6'.b
          refine y_offerM (M := M) (t := t) (lims := lims) (A := A) (W := stepsW M lims W (j : Int) v ((M.ways j).take i)) (done := done') (s := st.go) (v := bump M.kinds v st.ki) (og := some ((j : Int), v, st)) O Ii F6 S6 f6'.c rfl (len_bump st.ki hl) ?_ fun Hs7 H8 f7 S7' fr7 => ?_
          · intro Ha Hb0 a b Q q
            have sv7 : EvD K (tVar 7) [some (.ref x), some v1, some v2, some sv, some (.int ((done' : Int) + 1)), some (.int (j : Int)), some y2, some u] Ha (dStp st) := evd_var (v := u) rfl (dp_ex a p3)
            have vv7 : EvD K (tVar 6) [some (.ref x), some v1, some v2, some sv, some (.int ((done' : Int) + 1)), some (.int (j : Int)), some y2, some u] Ha (dV v) := evd_var (v := y2) rfl (dp_ex (ex6.trans a) d2)
            refine evd_go sv7 Ha Hb0 (Ex.refl _) b _ fun g1 Hc1 Hd1 fa ga => ?_
            have ga' := dp_int ga
            subst ga'
            obtain ⟨av, av1, av2⟩ := (F6.ex (a.trans fa.b)).aft
            obtain ⟨ad, adx, afs, asp, rfl, ah, as1, as2⟩ := id av2
            refine ⟨.ref x, rfl, x, dx, A.fs, ad, rfl, fa.c _ _ ((F6.ex (a.trans fa.b)).hx), av1, ?_⟩
            refine ead_cons (vv7.mono fa.b) (ead_cons (sv7.mono fa.b) ead_nil) Hc1 Hd1 (Ex.refl _) fa.c _ fun ws Hc2 Hd2 fb hws => ?_
            obtain ⟨w1, w2, rfl, w1', w2'⟩ := dps2 hws
            refine ⟨.inr ⟨adx, afs, fb.c _ _ (fb.b _ _ ah)⟩, Hc2, _, fb.c, ⟨.ref ad, w1, w2, M.kinds, v, st, rfl, av2.ex fb.b, w1', w2', hl, O.knd, Nat.le_trans O.few (by decide), O.kne, O.ki j st hstm, rfl⟩, fun r1 Hc3 Hd3 fc hr1 => ?_⟩
            have fabc := (fa.trans fb).trans fc
            refine evd_tup (ead_cons (evd_var (i := 5) (v := .int (j : Int)) (σ := [some (.ref x), some v1, some v2, some sv, some (.int ((done' : Int) + 1)), some (.int (j : Int)), some y2, some u]) rfl (.int (j : Int))) (ead_cons (vv7.mono fabc.b) (ead_cons (sv7.mono fabc.b) ead_nil))) (by simp) Hc3 Hd3 (Ex.refl _) fc.c _ fun tv' Hc4 Hd4 fd htv => ?_
            exact q _ Hc4 Hd4 (fabc.trans fd) ⟨r1, tv', rfl, dp_ex fd.b hr1, htv⟩
          · refine hN' _ Hs7 H8 (f6'.m.trans f7) ⟨some u, rfl, F6.ex f7.b, ?_, g5.trans (f6'.m.trans f7), fun b u' h1 h2 h3 hb => fr7 b u' h1 h2 h3 (f6'.a _ _ (fr5 b u' h1 h2 h3 hb))⟩
            rw [List.take_add_one, hst]
            show WSt K P w A (stepsW M lims W (j : Int) v ((M.ways j).take i ++ [st])) Hs7 H8
            rw [stepsW_snoc]
            exact S7'
        · obtain ⟨z, rfl, F5, S5, g5, fr5⟩ := iv
          rw [List.take_length] at S5
          exact back _ Hs5 H5 z rfl g5 F5 (by rw [et]; exact S5) fr5
      · have hmem : ¬ v ∈ W.held s := by rw [eh]; exact of_decide_eq_false hb3
        have et : turnW M lims W done' = W := by
          unfold turnW
          rw [hsv]
          dsimp only
          rw [if_neg hmem]
        have fw4 : Fw Hs' H3 Hs' H4 := fw_skip fw3.c e4
        exact back _ Hs' H4 c' rfl fw4.m F' (by rw [et]; exact S3.fw fw4) fun b u _ _ _ hb => e4 _ _ hb
end
end K02
set_option Elab.async false
set_option linter.all false
set_option maxRecDepth 100000
set_option maxHeartbeats 1000000
/-! ### comprehensions with two fors -/
namespace K02
open PySem PySem.Spec PyProof.Rows L2 Evl
section
variable {K : PySem.W.Frag} {σ : L2.St} {H : Hp} {te ta : TE}
theorem evd_lc2 {α β : Type} {wi wi1 : TI} {g g1 : TG} {vs vs1 : List Nat} {S : Nat → L2.St → L2.St → Hp → Prop} (as : List α) (bs : α → List β) (f : α → β → PyData) (hw : Wk wi g σ H as.length S) (hn : (as.flatMap bs).length ≤ 50000)
    (hs : ∀ i a σ2 H', as[i]? = some a → Ex H H' → S i (wipe σ vs) σ2 H' → wipe σ2 vs = wipe σ vs ∧ ∃ S1' : Nat → L2.St → L2.St → Hp → Prop, Wk wi1 g1 σ2 H' (bs a).length S1' ∧
      ∀ j b σ3 H'', (bs a)[j]? = some b → Ex H' H'' → S1' j (wipe σ2 vs1) σ3 H'' → wipe σ3 vs1 = wipe σ2 vs1 ∧ EvD K te σ3 H'' (f a b)) :
    EvD K (tLc2 wi g tYes wi1 g1 tYes te vs vs1) σ H (.list (as.flatMap fun a => (bs a).map (f a))) := fun Hs0 H0 a0 b0 Q q =>
  hw Hs0 H0 a0 b0 _ fun J Hs1 H1 f1 hJ => fun D hD => by
    refine ⟨fun i m H' => m = as.length - i ∧ i ≤ as.length ∧ ∃ Hs, Bld K Hs1 H1 D ((as.take i).flatMap fun a => (bs a).map (f a)) Hs H', ⟨as.length, by simp, Nat.zero_le _, Hs1, Ex.new hD, Ex.refl _, f1.c.trans (Ex.new hD), fun _ _ _ n => n, fresh_back f1.c hD, [], upd_same, .nil⟩, ?_⟩
    rintro i m H' ⟨rfl, hi, Hs, B⟩
    by_cases hlt : i < as.length
    · obtain ⟨_, hgo⟩ := hJ Hs H' B.b B.c
      obtain ⟨go, hy⟩ := hgo i hlt
      have e1 : as[i]? = some as[i] := List.getElem?_eq_getElem hlt
      have et : as.take (i + 1) = as.take i ++ [as[i]] := by rw [List.take_add_one, e1]; rfl
      refine .inr ⟨go, fun H'' => i + 1 ≤ as.length ∧ ∃ Hs, Bld K Hs1 H1 D ((as.take (i + 1)).flatMap fun a => (bs a).map (f a)) Hs H'', fun H'' w => ⟨as.length - (i + 1), by omega, rfl, w⟩, fun x H'' y => ?_⟩
      refine hy x H'' y _ _ fun σ2 Hs3 H3 f3 hS => ?_
      have B3 := B.fw f3
      obtain ⟨w1, S1', hw1, hs1⟩ := hs i _ σ2 Hs3 e1 ((a0.trans f1.b).trans B3.b) hS
      refine ⟨w1, ?_⟩
      show wi1 σ2 H3 _
      refine hw1 Hs3 H3 (Ex.refl _) B3.c _ fun J1 Hs4 H4 f4 hJ1 => ?_
      have B4 := B3.fw f4
      refine ⟨fun j k H' => k = (bs as[i]).length - j ∧ j ≤ (bs as[i]).length ∧ ∃ Hs, Ex Hs4 Hs ∧ Bld K Hs1 H1 D (((as.take i).flatMap fun a => (bs a).map (f a)) ++ ((bs as[i]).take j).map (f as[i])) Hs H',
        ⟨(bs as[i]).length, by simp, Nat.zero_le _, Hs4, ?_⟩, ?_⟩
      · rw [List.take_zero, List.map_nil, List.append_nil]
        exact ⟨Ex.refl _, B4⟩
      · rintro j k H5 ⟨rfl, hj, Hs5, C5, B5⟩
        by_cases hlj : j < (bs as[i]).length
        · obtain ⟨_, hgo1⟩ := hJ1 Hs5 H5 C5 B5.c
          obtain ⟨go1, hy1⟩ := hgo1 j hlj
          have e2 : (bs as[i])[j]? = some (bs as[i])[j] := List.getElem?_eq_getElem hlj
          have et2 : (bs as[i]).take (j + 1) = (bs as[i]).take j ++ [(bs as[i])[j]] := by rw [List.take_add_one, e2]; rfl
          refine .inr ⟨go1, fun H'' => j + 1 ≤ (bs as[i]).length ∧ ∃ Hs, Ex Hs4 Hs ∧ Bld K Hs1 H1 D (((as.take i).flatMap fun a => (bs a).map (f a)) ++ ((bs as[i]).take (j + 1)).map (f as[i])) Hs H'', fun H'' w => ⟨(bs as[i]).length - (j + 1), by omega, rfl, w⟩, fun x1 H6 y1 => ?_⟩
          refine hy1 x1 H6 y1 _ _ fun σ3 Hs7 H7 f7 hS1 => ?_
          have C7 : Ex Hs4 Hs7 := C5.trans f7.b
          have B7 := B5.fw f7
          obtain ⟨v1, v2⟩ := hs1 j _ σ3 Hs7 e2 (f4.b.trans C7) hS1
          refine ⟨v1, ?_⟩
          show te σ3 H7 _
          refine v2 Hs7 H7 (Ex.refl _) B7.c _ fun v Hs8 H8 f8 hv => ?_
          have C8 : Ex Hs4 Hs8 := C7.trans f8.b
          have B8 := B7.fw f8
          obtain ⟨xs, hx, hd⟩ := B8.l
          have hlen : xs.length < 100000 := by
            rw [dps_len hd, List.length_append, List.length_map, List.length_take]
            have t1 : ((as.take i).flatMap fun a => (bs a).map (f a)).length ≤ (as.flatMap bs).length := by
              have h2 : (as.flatMap bs) = (as.take i).flatMap bs ++ (as.drop i).flatMap bs := by rw [← List.flatMap_append, List.take_append_drop]
              have h3 : ((as.take i).flatMap fun a => (bs a).map (f a)).length = ((as.take i).flatMap bs).length := by
                rw [List.length_flatMap, List.length_flatMap]
                congr 1
                exact List.map_congr_left fun a _ => List.length_map _
              rw [h2, h3, List.length_append]
              omega
            have t2 : (bs as[i]).length ≤ (as.flatMap bs).length := by
              have h2 : (as.flatMap bs) = (as.take i).flatMap bs ++ (as.drop i).flatMap bs := by rw [← List.flatMap_append, List.take_append_drop]
              rw [h2, List.drop_eq_getElem_cons hlt, List.flatMap_cons, List.length_append, List.length_append]
              omega
            omega
          refine ⟨xs, hx, sz_lt hlen, hlj, Hs8, ?_, ?_⟩
          · exact C8
          · rw [et2, List.map_append, ← List.append_assoc]
            exact ⟨Ex.mut B8.a hD, B8.b, Ex.mut B8.c B8.n, B8.d, B8.n, _, upd_same, dps_app hd (dps_one hv)⟩
        · have ej : j = (bs as[i]).length := by omega
          subst ej
          refine .inl ⟨(hJ1 Hs5 H5 C5 B5.c).1, hlt, Hs5, ?_⟩
          rw [et, List.flatMap_append]
          rw [List.take_length] at B5
          simpa using B5
    · have ei : i = as.length := by omega
      subst ei
      rw [List.take_length] at B
      obtain ⟨xs, hx, hd⟩ := B.l
      refine .inl ⟨(hJ Hs H' B.b B.c).1, q _ (upd Hs D (.lst xs)) H' (f1.trans ⟨B.a, B.b.trans (Ex.new B.n), fun x o e => ?_, fun x o e nn => ?_⟩) (.lst (sq_of upd_same) (dps_ex (Ex.new B.n) hd))⟩
      · by_cases hx' : x = D
        · subst hx'; rw [upd_same] at e; rw [← e]; exact hx
        · rw [upd_ne hx'] at e; exact B.c x o e
      · rw [upd_ne (ne_of_none e hD)]
        exact B.d x o e nn
end
end K02
set_option Elab.async false
set_option linter.all false
set_option maxRecDepth 100000
set_option maxHeartbeats 1000000
/-! ### Ways: least, run, table, run_to -/
namespace K02
open PySem PySem.Spec PyProof.Rows L2 Evl
/-- a Ways that is done -/
def WaysIs (K : PySem.W.Frag) (P : Program) (w : World) (M : Mac) (W : WS) (v : V) (H : Hp) : Prop := ∃ (x dx : Addr) (m l a : V) (c o r : Addr), v = .ref x ∧ H x = some (.ins (He.ga K "Ways") dx (wFs m l a c o r)) ∧ MacAt K M m H ∧
  (∃ kvs, H c = some (.dK kvs) ∧ EntD K H kvs (costsD W.costs)) ∧ ∃ xs, H o = some (NdO P w o xs) ∧ NdK K H xs ∧ OrD K H xs W.orig
theorem WaysIs.ex {K : PySem.W.Frag} {P : Program} {w : World} {M : Mac} {W : WS} {v : V} {H H' : Hp} (e : Ex H H') (h : WaysIs K P w M W v H) : WaysIs K P w M W v H' := by
  obtain ⟨x, dx, m, l, a, c, o, r, h1, h2, h3, ⟨kvs, h4, h5⟩, xs, h6, h7, h8⟩ := h
  exact ⟨x, dx, m, l, a, c, o, r, h1, e _ _ h2, h3.ex e, ⟨kvs, e _ _ h4, entD_ex e h5⟩, xs, e _ _ h6, h7.ex e, orD_ex e h8⟩
section
variable {K : PySem.W.Frag} {P : Program} {w : World} {mg : Str → Option Value} {σ : L2.St} {H : Hp} {te ta tb ty : TE} {M : Mac} {W : WS}
theorem evp_at {ents : List (Int × PyData)} (h : EvP te σ H (DictX K ents)) : EvP te σ H (DictAt K ents) := h.imp fun _ _ _ p => p.at
theorem evp_costs (T : G K mg) (h : EvP te σ H (WaysIs K P w M W)) : EvP (tFld K te "costs") σ H (DictX K (costsD W.costs)) := evp_fld h (T.cl "Ways") (T.no "Ways" "costs") fun v Hs _ q => by
  obtain ⟨x, dx, m, l, a, c, o, r, h1, h2, h3, ⟨kvs, h4, h5⟩, xs, h6, h7, h8⟩ := q
  exact ⟨x, dx, _, _, h1, h2, rfl, c, kvs, rfl, h4, h5⟩
theorem evp_ways' {v : V} {i : Nat} (hs : σ[i]? = some (some v)) (h : WaysIs K P w M W v H) : EvP (tVar i) σ H (WaysIs K P w M W) := evp_of (ev_var hs) fun _ e => h.ex e
theorem costsD_at (W : WS) (s : Int) : (entL (costsD W.costs) s).getD (.list []) = .list ((W.held s).map dV) := by
  have e : entL (costsD W.costs) s = (getA W.costs s).map fun l => PyData.list (l.map dV) := getA_mapv (fun l : List Vec => PyData.list (l.map dV)) W.costs s
  rw [e]
  unfold WS.held heldC
  cases getA W.costs s <;> rfl
/-- costs.get(s, []) for a table -/
theorem evd_held {cs : List (Int × List Vec)} {s : Int} (h : EvP te σ H (DictAt K (costsD cs))) (hs : Ev ty σ H (.int s)) : EvD K (tDGet2 te ty (tLst tNil)) σ H (.list ((heldC cs s).map dV)) := by
  have key := evd_dget2 (d := .list []) h hs (evd_lst ead_nil (by simp))
  have e : entL (costsD cs) s = (getA cs s).map fun l => PyData.list (l.map dV) := getA_mapv (fun l : List Vec => PyData.list (l.map dV)) cs s
  rw [e] at key
  unfold heldC
  cases g : getA cs s with
  | none => rw [g] at key; exact key
  | some l => rw [g] at key; exact key
end
/-- all that is held at the goals -/
def heldAll (cs : List (Int × List Vec)) (gs : List Int) : List Vec := gs.flatMap fun g => heldC cs g
theorem flatMap_id {α β : Type} (gs : List α) (f : α → List Vec) (d : Vec → β) : (gs.flatMap fun g => (f g).map d) = (gs.flatMap f).map d := by
  rw [List.map_flatMap]
def rWLeast (K : PySem.W.Frag) (P : Program) (w : World) : List V → Hp → PyData → Prop := fun vs Hs d => ∃ (a x : V) (M : Mac) (W : WS) (gs : List Int) (n : Nat), vs = [a, x] ∧ WaysIs K P w M W a Hs ∧ Dp K Hs x (.tuple (gs.map .int)) ∧ gs.length ≤ 1000 ∧ OneLen n (heldAll W.costs gs) ∧ n ≤ 1000 ∧ (heldAll W.costs gs).length ≤ 50000 ∧ d = .list ((leastOf (heldAll W.costs gs)).map dV)
section
variable {P : Program} {w : World} {K : PySem.W.Frag} {mg : Str → Option Value} {base : Heap}
/-- [vector for goal in goals for vector in costs.get(goal, [])] -/
theorem evd_heldAll {σ : L2.St} {H : Hp} {tg tc : TE} {cs : List (Int × List Vec)} {gs : List Int} {j k : Nat} (hg : EvD K tg σ H (.tuple (gs.map .int))) (hc : ∀ u H', Ex H H' → EvP tc ((wipe σ [j, k]).set j (some u)) H' (DictAt K (costsD cs))) (hn : (heldAll cs gs).length ≤ 50000) (hgl : gs.length ≤ 1000)
    (w1 : ∀ u, wipe ((wipe σ [j, k]).set j (some u)) [j, k] = wipe σ [j, k]) (w2 : ∀ u u', wipe ((wipe ((wipe σ [j, k]).set j (some u)) [k]).set k (some u')) [k] = wipe ((wipe σ [j, k]).set j (some u)) [k]) (w3 : ∀ u, ((wipe σ [j, k]).set j (some u))[j]? = some (some u))
    (w4 : ∀ u u', ((wipe ((wipe σ [j, k]).set j (some u)) [k]).set k (some u'))[k]? = some (some u')) :
    EvD K (tLc2 (iTup K tg) (gName j) tYes (iList K (tDGet2 tc (tVar j) (tLst tNil))) (gName k) tYes (tVar k) [j, k] [k]) σ H (.list ((heldAll cs gs).map dV)) := by
  have key := evd_lc2 (K := K) (te := tVar k) (g := gName j) (g1 := gName k) (vs := [j, k]) (vs1 := [k]) (wi1 := iList K (tDGet2 tc (tVar j) (tLst tNil))) gs (fun g => heldC cs g) (fun _ v => dV v) (wk_tupA gs .int (j := j) hg) hn fun i g σ2 H' hi e hS => by
    obtain ⟨u, ⟨a1, e1, p1⟩, rfl⟩ := hS
    rw [hi] at e1
    cases e1
    have q := dp_int p1
    subst q
    refine ⟨w1 _, _, wk_listA (heldC cs g) dV (j := k) (evd_held (hc _ H' e) (ev_var (w3 _))), fun jj v σ3 H'' hj e' hS' => ?_⟩
    obtain ⟨u', ⟨a2, e2, p2⟩, rfl⟩ := hS'
    rw [hj] at e2
    cases e2
    exact ⟨w2 _ _, evd_var (w4 _ _) p2⟩
  rw [flatMap_id] at key
  exact key
abbrev NWL : List Str := ["self", "goals", "goal", "vector"]
theorem scWLeast : FnScope NWL ["self", "goals"] (defScope sWLeast) := ⟨rfl, rfl, rfl, by decide +kernel, rfl, by decide +kernel, by decide +kernel⟩
theorem ok_wLeast (T : G K mg) : Ok P w K mg base CX0 4 (He.ma K (He.ga K "Ways") "least") ["self", "goals"] (spD K (rWLeast K P w)) := by
  obtain ⟨fd, F⟩ := T.funM 20
  obtain ⟨fdB, GB, bB, kB⟩ := ok_leastOf (P := P) (w := w) (base := base) T
  refine ok_of F scWLeast (fun vs H Q E h => ?_) (fun _ _ _ _ _ _ us hl => match us, hl with | [_, _], _ => rfl) fun cdv A outer s H vs Q E hr h => ?_
  · obtain ⟨_, _, _, ⟨_, _, _, _, _, _, rfl, _⟩, _⟩ := h
    rfl
  · obtain ⟨Hs, d, eH, ⟨a, x, M, W, gs, n, rfl, ha, hx, hgl, h1, hn, hz, rfl⟩, kQ⟩ := h
    refine ⟨_, pss_one (ps_ret (pe_call GB hr rfl (T.gl "least_of") kB bB .nil pass0 (pa_cons
      (pe_lc2 (own := [("goal", 2), ("vector", 3)]) (vs1 := [3]) (g := gName 2) (g1 := gName 3) (tt := tYes) (tt1 := tYes) (te := tVar 3) (wi1 := iList K (tDGet2 (tFld K (tVar 0) "costs") (tVar 2) (tLst tNil))) rfl scWLeast.nd (pi_tup (pv 1)) (blkOk_by (N := NWL) (sc := defScope sWLeast) (by decide +kernel)) (by decide)
        (fun _ _ _ _ _ => pg_name (i := 2) scWLeast.nd rfl (Or.inl rfl)) (fun _ _ _ _ _ => pts_nil) (fun _ _ _ _ _ => pi_list (pe_dget2 (room_1 hr) (pe_fld (pv 0) rfl) (pv 2) (pe_lst pa_nil) ⟨rfl, rfl, rfl, rfl⟩))
        (fun _ _ _ _ _ => pg_name (i := 3) scWLeast.nd rfl (Or.inl rfl)) (fun _ _ _ _ _ => pts_nil) (fun _ _ _ _ _ => pv 3)) pa_nil))), ?_⟩
    refine y_ret (evd_call (ds := [.list ((heldAll W.costs gs).map dV)]) (ead_cons (evd_heldAll (K := K) (j := 2) (k := 3) (σ := start NWL [a, x]) (evd_var (i := 1) (v := x) rfl hx) (fun u H' e => evp_at (evp_costs T (evp_ways' (i := 0) (v := a) rfl (ha.ex e)))) hz hgl (fun _ => rfl) (fun _ _ => rfl) (fun _ => rfl) (fun _ _ => rfl)) ead_nil) fun vs Hs' _ hvs => ?_) eH fun v Hs2 H2 f2 hv => kQ v Hs2 H2 f2 hv
    obtain ⟨y, rfl, hy⟩ := dps1 hvs
    exact ⟨y, _, n, rfl, hy, h1, hn, by omega, rfl⟩
/-! run -/
def OrAt (K : PySem.W.Frag) (P : Program) (w : World) (orig : List ((Int × Vec) × Option (Int × Vec × Stp))) (v : V) (H : Hp) : Prop := ∃ o xs, v = .ref o ∧ H o = some (NdO P w o xs) ∧ NdK K H xs ∧ OrD K H xs orig
theorem evp_orig (T : G K mg) {σ : L2.St} {H : Hp} {te : TE} {M : Mac} {W : WS} (h : EvP te σ H (WaysIs K P w M W)) : EvP (tFld K te "origins") σ H (OrAt K P w W.orig) := evp_fld h (T.cl "Ways") (T.no "Ways" "origins") fun v Hs _ q => by
  obtain ⟨x, dx, m, l, a, c, o, r, h1, h2, h3, _, xs, h6, h7, h8⟩ := q
  exact ⟨x, dx, _, _, h1, h2, rfl, o, xs, rfl, h6, h7, h8⟩
theorem evd_nget {σ : L2.St} {H : Hp} {td ty : TE} {orig : List ((Int × Vec) × Option (Int × Vec × Stp))} {p : Int × Vec} {og : Option (Int × Vec × Stp)} (h : EvP td σ H (OrAt K P w orig)) (hk : EvD K ty σ H (dPr p)) (hg : getA orig p = some og) : EvD K (tNGet K P w td ty) σ H (dOg og) := fun Hs H1 a b Q q =>
  h Hs H1 a b _ fun v Hs2 H2 f hv => hk Hs2 H2 (a.trans f.b) f.c _ fun y Hs3 H3 f3 p3 => by
    obtain ⟨o, xs, rfl, h1, h2, h3⟩ := hv
    have look := orD_look h3 p
    rw [hg] at look
    obtain ⟨u, u1, u2⟩ := look
    obtain ⟨b', _, rfl, _⟩ := dp_tup (show Dp K Hs3 y (.tuple [.int p.1, dV p.2]) from p3)
    refine ⟨o, b', xs, kPr p, u, rfl, rfl, .inl (f3.c _ _ (f3.b _ _ h1)), h2.ex (f3.b.trans f3.c), ?_, kPr_depth p, u1, q u Hs3 H3 (f.trans f3) (dp_ex f3.b u2)⟩
    rw [kPr_data]
    exact dp_ex f3.c p3
theorem ev_notNone {σ : L2.St} {H : Hp} {te : TE} {og : Option (Int × Vec × Stp)} (h : EvD K te σ H (dOg og)) : Ev (tNotN te) σ H (.bl og.isSome) := fun H1 e Q q =>
  h H H1 (Ex.refl _) e _ fun v Hs2 H2 f p => by
    cases og with
    | none =>
      have e := dp_non (show Dp K Hs2 v .none from p)
      subst e
      exact q H2 f.a
    | some z =>
      obtain ⟨s, u, st⟩ := z
      obtain ⟨a, _, rfl, _⟩ := dp_tup (show Dp K Hs2 v (.tuple [.int s, dV u, dStp st]) from p)
      exact q H2 f.a
def rRun (K : PySem.W.Frag) (P : Program) (w : World) : List V → Hp → PyData → Prop := fun vs Hs d => ∃ (a y : V) (M : Mac) (W : WS) (s : Int) (v : Vec) (rr : List Stp), vs = [a, .int s, y] ∧ WaysIs K P w M W a Hs ∧ Dp K Hs y (dV v) ∧ v ∈ W.held s ∧ ChainOf W.orig s v rr ∧ rr.length ≤ 1000 ∧ d = .list (rr.reverse.map dStp)
/-- the pair that stands k steps back -/
theorem chainOf_drop {orig : List ((Int × Vec) × Option (Int × Vec × Stp))} {s : Int} {v : Vec} {st : Stp} {rr : List Stp} (h : ChainOf orig s v (st :: rr)) : ∃ s0 v0, getA orig (s, v) = some (some (s0, v0, st)) ∧ ChainOf orig s0 v0 rr := h
abbrev NRU : List Str := ["self", "state", "vector", "found", "step"]
theorem scRun : FnScope NRU ["self", "state", "vector"] (defScope sRun) := ⟨rfl, rfl, rfl, by decide +kernel, rfl, by decide +kernel, by decide +kernel⟩
abbrev g3 (K : PySem.W.Frag) (i j k : Nat) : TG := gTup K 3 (gCons (gName i) (gCons (gName j) (gCons (gName k) gNil)))
theorem y_asg3 {σ : L2.St} {H Hs : Hp} {te : TE} {D : Ends} {i j k : Nat} {a b c : PyData} (h : EvD K te σ Hs (.tuple [a, b, c])) (e : Ex Hs H) (q : ∀ x y z Hs1 H1, Fw Hs H Hs1 H1 → Dp K Hs1 x a → Dp K Hs1 y b → Dp K Hs1 z c → D.nx (((σ.set i (some x)).set j (some y)).set k (some z)) H1) : tAsg te (g3 K i j k) D σ H :=
  h Hs H (Ex.refl _) e _ fun v Hs1 H1 f p => by
    obtain ⟨T, zs, rfl, hz, hzs⟩ := dp_tup p
    obtain ⟨x, y, z, rfl, p1, p2, p3⟩ := dps3 hzs
    exact ⟨T, [x, y, z], rfl, ex_t f.c hz, rfl, x, [y, z], rfl, y, [z], rfl, z, [], rfl, rfl, q x y z Hs1 H1 f p1 p2 p3⟩
theorem ok_run (T : G K mg) : Ok P w K mg base CX0 1 (He.ma K (He.ga K "Ways") "run") ["self", "state", "vector"] (spD K (rRun K P w)) := by
  obtain ⟨fd, F⟩ := T.funM 18
  refine ok_of F scRun (fun vs H Q E h => ?_) (fun _ _ _ _ _ _ us hl => match us, hl with | [_, _, _], _ => rfl) fun cdv A outer s H vs Q E hr h => ?_
  · obtain ⟨_, _, _, ⟨_, _, _, _, _, _, _, rfl, _⟩, _⟩ := h
    rfl
  · obtain ⟨Hs, d, eH, ⟨a, y, M, W, s0, v, rr, rfl, ha, hy, hv, hch, hz, rfl⟩, kQ⟩ := h
    refine ⟨_, pss_cons (ps_assert (pt_cmpR (op_inD (room_65 hr)) (pv 2) (pe_dget (room_1 hr) (pe_fld (pv 0) rfl) (pv 1) (fun _ _ => rfl)) rfl))
      (pss_cons (ps_set (i := 3) scRun.nd rfl (Or.inl rfl) (pe_lst pa_nil))
      (pss_cons (ps_while PassesOwn.never (pt_cmp (pc_notN (pe_nget hr.units (pe_fld (pv 0) rfl) (pe_tup (pa_cons (pv 1) (pa_cons (pv 2) pa_nil))) (fun _ _ => rfl))))
        (pss_cons (ps_asg (pe_nget hr.units (pe_fld (pv 0) rfl) (pe_tup (pa_cons (pv 1) (pa_cons (pv 2) pa_nil))) (fun _ _ => rfl)) (pg_tup rfl (pgs_cons (pg_name (i := 1) scRun.nd rfl (Or.inl rfl)) (pgs_cons (pg_name (i := 2) scRun.nd rfl (Or.inl rfl)) (pgs_cons (pg_name (i := 4) scRun.nd rfl (Or.inl rfl)) pgs_nil)))))
        (pss_one (ps_expr (pe_bm PySem.F.plainAttrs_list PySem.F.slot_list_append PySem.F.type_list_append mt_append (pv 3) (pa_cons (pv 4) pa_nil))))))
      (pss_one (ps_ret (pe_revL (pv 3)))))), ?_⟩
    obtain ⟨held, hg⟩ : ∃ held, getA W.costs s0 = some held := by
      unfold WS.held heldC at hv
      cases g : getA W.costs s0 with
      | none => rw [g] at hv; simp at hv
      | some z => exact ⟨z, rfl⟩
    have eh : W.held s0 = held := by unfold WS.held heldC; rw [hg]; rfl
    have eg : entL (costsD W.costs) s0 = some (.list (held.map dV)) := by
      have := getA_mapv (fun l : List Vec => PyData.list (l.map dV)) W.costs s0
      rw [hg] at this
      exact this
    have t1 := et_test (ev_inD (evd_var (i := 2) (σ := start NRU [a, .int s0, y]) (v := y) rfl hy) (evd_dget (evp_at (evp_costs T (evp_ways' (i := 0) (v := a) rfl ha))) (ev_var (i := 1) rfl) eg) (shaped_V v) (shaped_Vs held))
    rw [any_eqv_V] at t1
    refine t1 H eH _ fun H1 e1 => ⟨decide_eq_true (eh ▸ hv), ?_⟩
    dsimp only
    refine ⟨Nat.zero_le _, fun p hp => ?_⟩
    have p0 : H p = none := fresh_back e1 hp
    have ps0 : Hs p = none := fresh_back eH p0
    have f1 : Fw Hs H Hs (upd H1 p (.lst [])) := fw_skip eH (e1.trans (Ex.new hp))
    show tSeq _ _ _ _ _
    refine y_while (Hs := Hs) (fun σ Hs' H' => ∃ (k : Nat) (s' : Int) (v' : Vec) (y' : V) (st' : Option V), σ = [some a, some (.int s'), some y', some (.ref p), st'] ∧ Fm Hs H Hs' H' ∧ Ex H H' ∧ Dp K Hs' y' (dV v') ∧ ChainOf W.orig s' v' (rr.drop k) ∧ k ≤ rr.length ∧ Hs' p = none ∧ ∃ xs, H' p = some (.lst xs) ∧ DpAll K Hs' xs ((rr.take k).map dStp))
      (fun σ Hs' H' m => ∃ xs, H' p = some (.lst xs) ∧ m = rr.length - xs.length) f1.c ⟨0, s0, v, y, none, rfl, f1.m, f1.a, hy, hch, Nat.zero_le _, ps0, [], upd_same, .nil⟩ ⟨_, [], upd_same, rfl⟩ fun σ' Hs' H' mm fm' hM hμ => ?_
    obtain ⟨k, s', v', y', st', rfl, fm, eh', hy', hc', hk, hp', xs, hx, hd⟩ := hM
    obtain ⟨xs2, hx2, rfl⟩ := hμ
    rw [hx] at hx2
    cases hx2
    have xl : xs.length = k := by
      have := dps_len hd
      rw [List.length_map, List.length_take] at this
      omega
    have ha' := ha.ex fm.b
    have kd : EvD K (tTup (tCons (tVar 1) (tCons (tVar 2) tNil))) [some a, some (.int s'), some y', some (.ref p), st'] Hs' (dPr (s', v')) := evd_tup (ead_cons (evd_var (i := 1) (v := .int s') rfl (.int s')) (ead_cons (evd_var (i := 2) (v := y') rfl hy') ead_nil)) (by simp)
    cases hdr : rr.drop k with
    | nil =>
      rw [hdr] at hc'
      have hc0 : getA W.orig (s', v') = some none := hc'
      have ek : k = rr.length := by
        have := congrArg List.length hdr
        rw [List.length_drop] at this
        simp at this
        omega
      have tt := et_B ((ev_notNone (evd_nget (evp_orig T (evp_ways' (i := 0) (v := a) rfl ha')) kd hc0)).mono fm.c)
      refine ⟨_, tt, fun _ H2 e2 => ?_, fun hb => absurd hb (by decide)⟩
      refine ⟨.ref p, rfl, p, xs, rfl, sq_of (e2 _ _ hx), fun q hq => kQ _ _ _ ((⟨eh'.trans e2, fm.b, fm.c.trans e2, fm.d⟩ : Fw Hs H Hs' H2).trans (Fw.new (fm.c.trans e2) hq)) ?_⟩
      refine .lst (sq_of upd_same) (dps_ex (Fw.new (fm.c.trans e2) hq).b ?_)
      rw [ek, List.take_length] at hd
      have hrev : ∀ {vs : List V} {ds : List PyData}, DpAll K Hs' vs ds → DpAll K Hs' vs.reverse ds.reverse := by
        intro vs
        induction vs with
        | nil => intro ds h; cases h; exact .nil
        | cons z vs ih =>
          intro ds h
          cases h with
          | cons h1 h2 =>
            rw [List.reverse_cons, List.reverse_cons]
            exact dps_app (ih h2) (dps_one h1)
      have := hrev hd
      rw [← List.map_reverse] at this
      exact this
    | cons st rest =>
      rw [hdr] at hc'
      obtain ⟨s1, v1, hc1, hc2⟩ := chainOf_drop hc'
      have tt := et_B ((ev_notNone (evd_nget (evp_orig T (evp_ways' (i := 0) (v := a) rfl ha')) kd hc1)).mono fm.c)
      refine ⟨_, tt, (fun hb => absurd hb (by simp)), fun _ H2 e2 N hN => ?_⟩
      have klt : k < rr.length := by
        have := congrArg List.length hdr
        rw [List.length_drop, List.length_cons] at this
        omega
      have hst : rr[k]? = some st := by
        have : (rr.drop k)[0]? = some st := by rw [hdr]; rfl
        rw [List.getElem?_drop] at this
        simpa using this
      refine y_asg3 (K := K) (i := 1) (j := 2) (k := 4) (a := .int s1) (b := dV v1) (c := dStp st) (evd_nget (evp_orig T (evp_ways' (i := 0) (v := a) rfl ha')) kd hc1) (fm.c.trans e2) fun x1 x2 x3 Hs3 H3 f3 d1 d2 d3 => ?_
      have q1 := dp_int d1
      subst q1
      dsimp only
      have hx3 : H3 p = some (.lst xs) := f3.a _ _ (e2 _ _ hx)
      have n3 : Hs3 p = none := f3.d _ _ (e2 _ _ hx) hp'
      refine y_app (K := K) (l := p) (xs := xs) hx3 f3.c (ev_var rfl |> fun (h : Ev (tVar 3) [some a, some (.int s1), some x2, some (.ref p), some x3] H3 (.ref p)) => fun H1 e Q q => h H1 e Q q) (evd_var (K := K) (i := 4) (v := x3) rfl d3) (by omega) fun x4 Hs4 H4 f4 d4 => ?_
      have n4 : Hs4 p = none := f4.d _ _ hx3 n3
      have m4 : Fm Hs' H' Hs4 (upd H4 p (.lst (xs ++ [x4]))) := (fw_skip fm.c e2).m.trans (f3.m.trans (f4.m.trans (Fm.mut f4.c n4)))
      refine hN _ Hs4 _ m4 ⟨k + 1, s1, v1, x2, some x3, rfl, fm.trans m4, fun b u hb => ?_, dp_ex f4.b d2, ?_, klt, n4, _, upd_same, ?_⟩ ⟨_, ?_, _, upd_same, rfl⟩
      · rw [upd_ne (ne_of_none hb p0)]
        exact f4.a _ _ (f3.a _ _ (e2 _ _ (eh' _ _ hb)))
      · have : rr.drop (k + 1) = rest := by
          have := congrArg List.tail hdr
          rw [List.tail_drop] at this
          exact this
        rw [this]
        exact hc2
      · rw [List.take_add_one, hst]
        show DpAll K Hs4 (xs ++ [x4]) ((rr.take k ++ [st]).map dStp)
        rw [List.map_append]
        exact dps_app (dps_ex (f3.b.trans f4.b) hd) (dps_one d4)
      · rw [List.length_append, List.length_singleton]
        omega
end
end K02
set_option Elab.async false
set_option linter.all false
set_option maxRecDepth 100000
set_option maxHeartbeats 1000000
/-! ### Ways: table, run_to -/
namespace K02
open PySem PySem.Spec PyProof.Rows L2 Evl
theorem evd_sortItems {K : PySem.W.Frag} {σ : L2.St} {H : Hp} {te : TE} {ents : List (Int × PyData)} (h : EvP te σ H (DictX K ents)) (S : SOk (ents.map entT)) : EvD K (tCB (rSortIK K) (tCons (tBM0 K "dict" rItemsK te) tNil)) σ H (.list (dSort (ents.map entT))) := fun Hs H1 a b Q q =>
  h Hs H1 a b _ fun v Hs2 H2 f hv => by
    obtain ⟨d, kvs, rfl, h1, h2⟩ := hv
    have hd := f.c _ _ h1
    refine ⟨.inr (.inr (.inl ⟨rfl, .inl ⟨kvs, hd⟩⟩)), d, kvs, rfl, rfl, hd, fun p hp => ?_⟩
    have fw : Fw Hs2 H2 Hs2 (upd H2 p (L2.DX.itemsO p d)) := fw_skip f.c (Ex.new hp)
    exact ⟨Hs2, p, d, kvs, ents, rfl, upd_same, fw.a _ _ hd, fw.c, h2, S, fun Hs3 H3 ys l f3 hl hy => q _ Hs3 H3 (f.trans (fw.trans f3)) (.lst (sq_of hl) hy)⟩
abbrev encC (e : Int × List Vec) : PyData := entT (e.1, .list (e.2.map dV))
theorem alike_Vs : ∀ l m : List Vec, PySem.W.alikeAll (l.map dV) (m.map dV) = true
  | [], _ => by simp [PySem.W.alikeAll]
  | _ :: _, [] => by simp [PySem.W.alikeAll]
  | a :: l, b :: m => by
    show PySem.W.alikeAll (dV a :: l.map dV) (dV b :: m.map dV) = true
    rw [PySem.W.alikeAll, alike_Vs l m, Bool.and_true]
    unfold dV
    rw [PySem.W.alike]
    exact PySem.W.alike_ints a b
theorem depth_Vs : ∀ l : List Vec, PyData.depthAll (l.map dV) ≤ 1
  | [] => by simp [PyData.depthAll]
  | a :: l => by
    show PyData.depthAll (dV a :: l.map dV) ≤ 1
    rw [PyData.depthAll]
    refine Nat.max_le.mpr ⟨?_, depth_Vs l⟩
    unfold dV
    rw [PyData.depth, PySem.W.depth_ints]
    exact Nat.le_refl _
theorem sok_C (cs : List (Int × List Vec)) : SOk ((costsD cs).map entT) := by
  have e : (costsD cs).map entT = cs.map encC := by unfold costsD; rw [List.map_map]; rfl
  rw [e]
  refine ⟨PySem.W.AllAlike.of fun b b' => ?_, .inl (PySem.W.Sortable.tuples fun b => ⟨_, _, rfl⟩), fun d hd => ?_⟩
  · simp only [encC, entT, PySem.W.alike, PySem.W.alikeAll, alike_Vs, Bool.and_true]
  · obtain ⟨b, _, rfl⟩ := List.mem_map.mp hd
    have := depth_Vs b.2
    simp only [encC, entT, PyData.depth, PyData.depthAll]
    omega
def sortC (cs : List (Int × List Vec)) : List (Int × List Vec) := cs.mergeSort (PySem.W.dataLe false encC)
def tableL (cs : List (Int × List Vec)) : List (Int × List Vec) := ((sortC cs).filter fun e => decide (e.2 ≠ [])).map fun e => (e.1, e.2.mergeSort vle)
theorem sortC_perm (cs : List (Int × List Vec)) : (sortC cs).Perm cs := List.mergeSort_perm _ _
theorem dSort_C (cs : List (Int × List Vec)) : dSort ((costsD cs).map entT) = (sortC cs).map encC := by
  have e : (costsD cs).map entT = cs.map encC := by unfold costsD; rw [List.map_map]; rfl
  rw [e]
  exact dSort_map encC cs
theorem eqv_Vs_nil (l : List Vec) : PyData.eqv (.list (l.map dV)) (.list []) = decide (l = []) := by
  cases l with
  | nil => simp [PyData.eqv, PyData.eqvAll]
  | cons a l => simp [PyData.eqv, PyData.eqvAll]
/-- promises that give a table -/
def spTab (K : PySem.W.Frag) (R : List V → Hp → List (Int × List Vec) → Prop) : Sp := fun vs H Q _ => ∃ (Hs : Hp) (cs : List (Int × List Vec)), Ex Hs H ∧ R vs Hs cs ∧ ∀ v Hs2 H2, Fw Hs H Hs2 H2 → DictX K (costsD cs) v Hs2 → Q v H2
/-- one length, and no two () -/
def VecsOk (n : Nat) (l : List Vec) : Prop := OneLen n l ∧ (n = 0 → l.length ≤ 1)
def rTable (K : PySem.W.Frag) (P : Program) (w : World) : List V → Hp → List (Int × List Vec) → Prop := fun vs Hs cs => ∃ (a : V) (M : Mac) (W : WS) (n : Nat), vs = [a] ∧ WaysIs K P w M W a Hs ∧ (W.costs.map (·.1)).Nodup ∧ W.costs.length ≤ 1000 ∧ (∀ e ∈ W.costs, VecsOk n e.2 ∧ e.2.length ≤ 1000) ∧ cs = tableL W.costs
section
variable {P : Program} {w : World} {K : PySem.W.Frag} {mg : Str → Option Value} {base : Heap}
abbrev NTA : List Str := ["self", "state", "held"]
theorem scTable : FnScope NTA ["self"] (defScope sTable) := ⟨rfl, rfl, rfl, by decide +kernel, rfl, by decide +kernel, by decide +kernel⟩
theorem ok_table (T : G K mg) : Ok P w K mg base CX0 1 (He.ma K (He.ga K "Ways") "table") ["self"] (spTab K (rTable K P w)) := by
  obtain ⟨fd, F⟩ := T.funM 19
  refine ok_of F scTable (fun vs H Q E h => ?_) (fun _ _ _ _ _ _ us hl => match us, hl with | [_], _ => rfl) fun cdv A outer s H vs Q E hr h => ?_
  · obtain ⟨_, _, _, ⟨_, _, _, _, rfl, _⟩, _⟩ := h
    rfl
  · obtain ⟨Hs, cs, eH, ⟨a, M, W, n, rfl, ha, hnd, hcl, hv, rfl⟩, kQ⟩ := h
    refine ⟨_, pss_one (ps_ret (pe_dg (own := [("state", 1), ("held", 2)]) (O0 := fun _ => .dK []) (P := PutKk) (g := g2 K 1 2) (tt := tTest (tOp (rNeD K) (tVar 2) (tLst tNil))) (tk := tVar 1) (tv := tCB (rSortD K) (tCons (tVar 2) tNil)) rfl scTable.nd
      (pi_list (pe_callB (cr_sortIK rfl hr.units) rfl (T.fr "sorted") (by decide +kernel) (pa_cons (pe_bm0 PySem.F.plainAttrs_dict PySem.F.slot_dict_items PySem.F.type_dict_items mt_itemsK (pe_fld (pv 0) rfl)) pa_nil))) (blkOk_by (N := NTA) (sc := defScope sTable) (by decide +kernel))
      (fun h H hb => dk_empty h hb) (fun s H ce fp => putKk_ok) (fun _ _ _ _ _ => pg_tup rfl (pgs_cons (pg_name (i := 1) scTable.nd rfl (Or.inl rfl)) (pgs_cons (pg_name (i := 2) scTable.nd rfl (Or.inl rfl)) pgs_nil)))
      (fun _ _ _ _ _ => pts_one (pt_cmpR (op_neD hr.units) (pv 2) (pe_lst pa_nil) (nomark _))) (fun _ _ _ _ _ => pv 1) (fun _ _ _ _ _ => pe_callB (cr_sortD hr.units) rfl (T.fr "sorted") (by decide +kernel) (pa_cons (pv 2) pa_nil)))), ?_⟩
    have hp := sortC_perm W.costs
    have wk := wk_list2 (j := 1) (k := 2) (evd_sortItems (evp_costs T (evp_ways' (i := 0) (σ := start NTA [a]) (v := a) rfl ha)) (sok_C W.costs)) (by
      rw [dSort_C]
      intro d hd
      obtain ⟨e, _, rfl⟩ := List.mem_map.mp hd
      exact ⟨_, _, rfl⟩)
    rw [dSort_C] at wk
    have key := evp_dk (K := K) (vs := [1, 2]) (tk := tVar 1) (tv := tCB (rSortD K) (tCons (tVar 2) tNil)) (tt := tTest (tOp (rNeD K) (tVar 2) (tLst tNil))) (sortC W.costs) (fun e => decide (e.2 ≠ [])) (fun e => Sum.inl e.1) (fun e => .list ((e.2.mergeSort vle).map dV)) (wk.cast (by rw [List.length_map])) (by rw [hp.length_eq]; omega) fun i e σ2 H' hi ex hS => by
      obtain ⟨u, u', ⟨a1, b1, e1, p1, p2⟩, rfl⟩ := hS
      rw [List.getElem?_map, hi] at e1
      have e1' : encC e = .tuple [a1, b1] := Option.some.inj e1
      unfold encC entT at e1'
      injection e1' with e1'
      injection e1' with e3 e4
      injection e4 with e4 _
      subst e3 e4
      have q1 := dp_int p1
      subst q1
      have hv' := hv e (hp.mem_iff.mp (List.mem_of_getElem? hi))
      refine ⟨rfl, ?_, fun hb => ⟨ev_var rfl, ?_⟩⟩
      · have t := et_test (ev_neD (K := K) (evd_var (i := 2) (σ := ((wipe (start NTA [a]) [1, 2]).set 1 (some (.int e.1))).set 2 (some u')) rfl p2) (evd_lst ead_nil (by simp)) (shaped_Vs e.2) (shaped_Vs []))
        rw [show (PyData.list ([] : List PyData)) = .list [] from rfl, eqv_Vs_nil] at t
        have e5 : (!decide (e.2 = [])) = decide (e.2 ≠ []) := by simp
        rw [e5] at t
        exact t
      · have := evd_sorted (K := K) (evd_var (i := 2) (σ := ((wipe (start NTA [a]) [1, 2]).set 1 (some (.int e.1))).set 2 (some u')) rfl p2) (sok_V (n := n) hv'.1.1 hv'.1.2)
        rw [dSort_V] at this
        exact this
    rw [putAll_nodup _ _ _ (by
      have h1 : ((sortC W.costs).map (·.1)).Nodup := (hp.map _).nodup_iff.mpr hnd
      have h2 : (((sortC W.costs).filter fun e => decide (e.2 ≠ [])).map (·.1)).Nodup := h1.sublist (List.filter_sublist.map _)
      have h3 : (((sortC W.costs).filter fun e => decide (e.2 ≠ [])).map fun e => (Sum.inl e.1 : Key)) = (((sortC W.costs).filter fun e => decide (e.2 ≠ [])).map (·.1)).map Sum.inl := by rw [List.map_map]; rfl
      rw [h3]
      exact List.Pairwise.map _ (fun a b h z => h (Sum.inl.inj z)) h2)] at key
    refine y_ret key eH fun v Hs2 H2 f2 hv => kQ v Hs2 H2 f2 (DkAt.int ?_)
    have e : (costsD (tableL W.costs)).map (fun e => ((Sum.inl e.1 : Key), e.2)) = ((sortC W.costs).filter fun e => decide (e.2 ≠ [])).map fun e => ((Sum.inl e.1 : Key), PyData.list ((e.2.mergeSort vle).map dV)) := by
      unfold costsD tableL
      rw [List.map_map, List.map_map]
      rfl
    rw [e]
    exact hv
/-! run_to -/
def rRunTo (K : PySem.W.Frag) (P : Program) (w : World) : List V → Hp → PyData → Prop := fun vs Hs d => ∃ (a x y : V) (M : Mac) (W : WS) (gs : List Int) (v : Vec) (i : Nat) (s : Int) (rr : List Stp), vs = [a, x, y] ∧ WaysIs K P w M W a Hs ∧ Dp K Hs x (.tuple (gs.map .int)) ∧ Dp K Hs y (dV v) ∧ gs.length ≤ 1000 ∧
  gs[i]? = some s ∧ v ∈ W.held s ∧ (∀ j s', j < i → gs[j]? = some s' → v ∉ W.held s') ∧ ChainOf W.orig s v rr ∧ rr.length ≤ 1000 ∧ d = .list (rr.reverse.map dStp)
abbrev NRT : List Str := ["self", "goals", "vector", "goal"]
theorem scRunTo : FnScope NRT ["self", "goals", "vector"] (defScope sRunTo) := ⟨rfl, rfl, rfl, by decide +kernel, rfl, by decide +kernel, by decide +kernel⟩
theorem ok_runTo (T : G K mg) : Ok P w K mg base CX0 2 (He.ma K (He.ga K "Ways") "run_to") ["self", "goals", "vector"] (spD K (rRunTo K P w)) := by
  obtain ⟨fd, F⟩ := T.funM 21
  obtain ⟨fdR, GR, bR, kR⟩ := ok_run (P := P) (w := w) (base := base) T
  refine ok_of F scRunTo (fun vs H Q E h => ?_) (fun _ _ _ _ _ _ us hl => match us, hl with | [_, _, _], _ => rfl) fun cdv A outer s H vs Q E hr h => ?_
  · obtain ⟨_, _, _, ⟨_, _, _, _, _, _, _, _, _, _, rfl, _⟩, _⟩ := h
    rfl
  · obtain ⟨Hs, d, eH, ⟨a, x, y, M, W, gs, v, i0, s0, rr, rfl, ha, hx, hy, hgl, hgi, hv, hno, hch, hz, rfl⟩, kQ⟩ := h
    refine ⟨_, pss_cons (ps_for PassesOwn.never rfl (pi_tup (pv 1)) (pg_name (i := 3) scRunTo.nd rfl (Or.inl rfl))
        (pss_one (ps_if (pt_cmpR (op_inD (room_65 hr)) (pv 2) (pe_dget2 (room_1 hr) (pe_fld (pv 0) rfl) (pv 3) (pe_lst pa_nil) ⟨rfl, rfl, rfl, rfl⟩) rfl)
          (pss_one (ps_ret (pe_meth (pv 0) (T.cl "Ways") (T.me "Ways" "run") GR hr bR .nil pass0 (pa_cons (pv 3) (pa_cons (pv 2) pa_nil))))) pss_nil)))
      (pss_one (ps_ret pe_non)), ?_⟩
    have il : i0 < gs.length := (List.getElem?_eq_some_iff.mp hgi).1
    refine y_for (wk_tupA gs .int (j := 3) (evd_var (K := K) (i := 1) (σ := start NRT [a, x, y]) (v := x) rfl hx)) eH (fun i σ' Hs' H' => i ≤ i0 ∧ Ex Hs Hs' ∧ Fw Hs H Hs' H' ∧ ∃ z, σ' = [some a, some x, some y, z]) (fun Hs1 H1 f1 => ⟨Nat.zero_le _, f1.b, f1, none, rfl⟩) (fun i σ' Hs' H' hi f iv σ2 Hs3 H3 f3 hS N hN => ?_) fun σ' Hs' H' f iv => absurd iv.1 (by omega)
    obtain ⟨hle, ex, fw, z, rfl⟩ := iv
    obtain ⟨u, ⟨g, hg, hp⟩, rfl⟩ := hS
    have q := dp_int hp
    subst q
    have ex3 := ex.trans f3.b
    have t := et_test (ev_inD (evd_var (K := K) (i := 2) (σ := [some a, some x, some y, some (.int g)]) (v := y) rfl (dp_ex ex3 hy)) (evd_held (s := g) (evp_at (evp_costs T (evp_ways' (i := 0) (v := a) rfl (ha.ex ex3)))) (ev_var (i := 3) rfl)) (shaped_V v) (shaped_Vs _))
    rw [any_eqv_V] at t
    refine y_if t f3.c (fun hb H4 e4 => ?_) fun hb H4 e4 => ?_
    · have hmem : v ∈ W.held g := of_decide_eq_true hb
      have ei : i = i0 := by
        rcases Nat.lt_or_eq_of_le hle with q | q
        · exact absurd hmem (hno i g q hg)
        · exact q
      subst ei
      rw [hgi] at hg
      cases hg
      obtain ⟨xa, dxa, m, l, aa, c, o, r, rfl, h1, h2⟩ := id (ha.ex ex3)
      refine ⟨.ref xa, rfl, xa, dxa, _, rfl, e4 _ _ (f3.c _ _ h1), rfl, ⟨.int s0, rfl, y, rfl, Hs3, _, f3.c.trans e4, ⟨.ref xa, y, M, W, s0, v, rr, rfl, ha.ex ex3, dp_ex ex3 hy, hv, hch, hz, rfl⟩, fun v' Hs5 H5 f5 hd => kQ v' Hs5 H5 (fw.trans (f3.trans ((fw_skip f3.c e4).trans f5))) hd⟩⟩
    · have hmem : v ∉ W.held g := of_decide_eq_false hb
      have ne : i ≠ i0 := fun z => by
        subst z
        rw [hgi] at hg
        cases hg
        exact hmem hv
      exact hN _ Hs3 H4 (f3.trans (fw_skip f3.c e4)).m ⟨by omega, ex3, fw.trans (f3.trans (fw_skip f3.c e4)), some (.int g), rfl⟩
end
end K02
set_option Elab.async false
set_option linter.all false
set_option maxRecDepth 100000
set_option maxHeartbeats 1000000
/-! ### dicts walked; is_table -/
namespace K02
open PySem PySem.Spec PyProof.Rows L2 Evl
/-- the same, though dicts may be locked or set free -/
def Er (H H' : Hp) : Prop := ∀ a o, H a = some o → H' a = some o ∨ ∃ kvs : List (Key × V), (o = .dK kvs ∨ ∃ od, o = .frz od (.dK kvs)) ∧ Rd H' a (.dK kvs)
theorem er_lst {H H' : Hp} {a : Addr} {xs : List V} (e : Er H H') (h : Rd H a (.lst xs)) : Rd H' a (.lst xs) := by
  rcases h with h | ⟨o, h⟩
  · rcases e _ _ h with q | ⟨_, q | ⟨_, q⟩, _⟩
    · exact .inl q
    · cases q
    · cases q
  · rcases e _ _ h with q | ⟨_, q | ⟨_, q⟩, _⟩
    · exact .inr ⟨o, q⟩
    · cases q
    · cases q
theorem er_tup {H H' : Hp} {a : Addr} {xs : List V} (e : Er H H') (h : Rd H a (.tup xs)) : Rd H' a (.tup xs) := by
  rcases h with h | ⟨o, h⟩
  · rcases e _ _ h with q | ⟨_, q | ⟨_, q⟩, _⟩
    · exact .inl q
    · cases q
    · cases q
  · rcases e _ _ h with q | ⟨_, q | ⟨_, q⟩, _⟩
    · exact .inr ⟨o, q⟩
    · cases q
    · cases q
theorem er_dK {H H' : Hp} {a : Addr} {kvs : List (Key × V)} (e : Er H H') (h : Rd H a (.dK kvs)) : Rd H' a (.dK kvs) := by
  rcases h with h | ⟨o, h⟩
  · rcases e _ _ h with q | ⟨k, q | ⟨_, q⟩, r⟩
    · exact .inl q
    · cases q; exact r
    · cases q
  · rcases e _ _ h with q | ⟨k, q | ⟨_, q⟩, r⟩
    · exact .inr ⟨o, q⟩
    · cases q
    · cases q; exact r
theorem er_ins {H H' : Hp} {a C dx : Addr} {fs : List (Str × V)} (e : Er H H') (h : H a = some (.ins C dx fs)) : H' a = some (.ins C dx fs) := by
  rcases e _ _ h with q | ⟨_, q | ⟨_, q⟩, _⟩
  · exact q
  · cases q
  · cases q
mutual
theorem dp_er {K : PySem.W.Frag} {H H' : Hp} (e : Er H H') : ∀ {v : V} {d : PyData}, Dp K H v d → Dp K H' v d
  | _, _, .non => .non
  | _, _, .bl b => .bl b
  | _, _, .int i => .int i
  | _, _, .str x => .str x
  | _, _, .lst h t => .lst (h.imp (er_lst e) id) (dps_er e t)
  | _, _, .tup h t => .tup (h.imp (er_tup e) id) (dps_er e t)
theorem dps_er {K : PySem.W.Frag} {H H' : Hp} (e : Er H H') : ∀ {vs : List V} {ds : List PyData}, DpAll K H vs ds → DpAll K H' vs ds
  | _, _, .nil => .nil
  | _, _, .cons h t => .cons (dp_er e h) (dps_er e t)
end
theorem entD_er {K : PySem.W.Frag} {H H' : Hp} (e : Er H H') {kvs : List (Key × V)} {ents : List (Int × PyData)} (h : EntD K H kvs ents) : EntD K H' kvs ents := by
  unfold EntD at h ⊢
  induction h with
  | nil => exact .nil
  | cons r t ih => exact .cons ⟨r.1, dp_er e r.2⟩ ih
theorem entK_er {K : PySem.W.Frag} {H H' : Hp} (e : Er H H') {kvs : List (Key × V)} {ents : List (Key × PyData)} (h : EntK K H kvs ents) : EntK K H' kvs ents := by
  unfold EntK at h ⊢
  induction h with
  | nil => exact .nil
  | cons r t ih => exact .cons ⟨r.1, dp_er e r.2⟩ ih
section
variable {K : PySem.W.Frag} {H H' : Hp} {v : V}
theorem MacAt.er {M : Mac} (e : Er H H') (h : MacAt K M v H) : MacAt K M v H' := by
  obtain ⟨a, dx, fs, s, kd, d, kvs, h1, h2, h3, ⟨h4, h5⟩, ⟨h6, h7⟩, h8, h9, h10⟩ := h
  exact ⟨a, dx, fs, s, kd, d, kvs, h1, er_ins e h2, h3, ⟨h4, dp_er e h5⟩, ⟨h6, dp_er e h7⟩, h8, er_dK e h9, entD_er e h10⟩
theorem DictAt.er {ents : List (Int × PyData)} (e : Er H H') (h : DictAt K ents v H) : DictAt K ents v H' := by
  obtain ⟨d, kvs, h1, h2, h3⟩ := h
  exact ⟨d, kvs, h1, er_dK e h2, entD_er e h3⟩
theorem DkR.er {ents : List (Key × PyData)} (e : Er H H') (h : DkR K ents v H) : DkR K ents v H' := by
  obtain ⟨d, kvs, h1, h2, h3⟩ := h
  exact ⟨d, kvs, h1, er_dK e h2, entK_er e h3⟩
theorem AddAt.er {kinds : List Str} (e : Er H H') (h : AddAt K kinds v H) : AddAt K kinds v H' := by
  obtain ⟨a, dx, fs, sp, h1, h2, h3, h4⟩ := h
  exact ⟨a, dx, fs, sp, h1, er_ins e h2, h3, h4.er e⟩
theorem er_frz {d : Addr} {od : Obj} {kvs : List (Key × V)} (h : H d = some (.dK kvs)) : Er H (upd H d (.frz od (.dK kvs))) := fun a o ha => by
  by_cases q : a = d
  · subst q
    rw [h] at ha
    cases ha
    exact .inr ⟨kvs, .inl rfl, .inr ⟨od, upd_same⟩⟩
  · exact .inl (by rw [upd_ne q]; exact ha)
theorem er_free {d : Addr} {od : Obj} {kvs : List (Key × V)} (h : H d = some (.frz od (.dK kvs))) : Er H (upd H d (.dK kvs)) := fun a o ha => by
  by_cases q : a = d
  · subst q
    rw [h] at ha
    cases ha
    exact .inr ⟨kvs, .inr ⟨od, rfl⟩, .inl upd_same⟩
  · exact .inl (by rw [upd_ne q]; exact ha)
theorem ex_frz {Hs H : Hp} {d : Addr} {o : HO} (e : Ex Hs H) : Ex (upd Hs d o) (upd H d o) := fun a u h => by
  by_cases q : a = d
  · subst q; rw [upd_same] at h ⊢; exact h
  · rw [upd_ne q] at h ⊢; exact e a u h
/-- set free again -/
theorem ex_back {d : Addr} {o o' : HO} {H H1 : Hp} (h : H d = some o) (e : Ex (upd H d o') H1) : Ex H (upd H1 d o) := fun a u ha => by
  by_cases q : a = d
  · subst q; rw [h] at ha; cases ha; exact upd_same
  · rw [upd_ne q]; exact e a u (by rw [upd_ne q]; exact ha)
/-- a locked dict, walked by items -/
def FrzAt (K : PySem.W.Frag) (ents : List (Int × PyData)) (v : V) (H : Hp) : Prop := ∃ d od kvs, v = .ref d ∧ H d = some (.frz od (.dK kvs)) ∧ EntD K H kvs ents
theorem FrzAt.ex {ents : List (Int × PyData)} (e : Ex H H') (h : FrzAt K ents v H) : FrzAt K ents v H' := by
  obtain ⟨d, od, kvs, h1, h2, h3⟩ := h
  exact ⟨d, od, kvs, h1, e _ _ h2, entD_ex e h3⟩
theorem entD_at {kvs : List (Key × V)} {ents : List (Int × PyData)} (h : EntD K H kvs ents) {i : Nat} {k : Key} {u : V} (hi : kvs[i]? = some (k, u)) : ∃ e, ents[i]? = some e ∧ k = .inl e.1 ∧ Dp K H u e.2 := by
  unfold EntD at h
  induction h generalizing i with
  | nil => simp at hi
  | @cons x y l m r t ih =>
    cases i with
    | zero => simp at hi; subst hi; exact ⟨y, rfl, r.1, r.2⟩
    | succ i => exact ih (by simpa using hi)
theorem wk_items {σ : L2.St} {td : TE} {ents : List (Int × PyData)} {j k : Nat} (h : EvP td σ H (FrzAt K ents)) : Wk (iItems td) (g2 K j k) σ H ents.length (S2 j k fun i v w H2 => ∃ e, ents[i]? = some e ∧ v = .int e.1 ∧ Dp K H2 w e.2) := fun Hs H0 a0 b0 R r =>
  h Hs H0 a0 b0 _ fun v Hs1 H1 f hp => by
    obtain ⟨d, od, kvs, rfl, h1, h2⟩ := hp
    have hl : kvs.length = ents.length := Paired.length h2
    refine ⟨d, od, kvs, rfl, f.c _ _ h1, r _ Hs1 H1 f fun Hs' H' e1 e2 => ⟨⟨e2 _ _ (e1 _ _ h1), Nat.le_of_eq hl⟩, fun i hi => ⟨⟨e2 _ _ (e1 _ _ h1), by omega⟩, fun x H'' y => ?_⟩⟩⟩
    obtain ⟨T, kk, u, hk, rfl, hT, rfl⟩ := y
    obtain ⟨e, he, rfl, hd⟩ := entD_at h2 hk
    intro σb Q hQ
    exact g2_of (st_of upd_same) (hQ _ Hs' _ (fw_skip e2 (Ex.new hT)) ⟨_, _, ⟨e, he, rfl, dp_ex e1 hd⟩, rfl⟩)
end
/-- is the table closed under the steps -/
def tabClosed (M : Mac) (cs : List (Int × List Vec)) (lims : List (Option Int)) : Bool :=
  cs.all fun e => (M.ways e.1.toNat).all fun st => e.2.all fun v => !(belowO (bump M.kinds v st.ki) lims && !(heldC cs st.go).any fun o => below o (bump M.kinds v st.ki))
def isTab (M : Mac) (cs : List (Int × List Vec)) (lims : List (Option Int)) : Bool := ((heldC cs 0).any fun v => below v (zeroV M.kinds)) && tabClosed M cs lims
/-- a table as the program may meet it -/
structure TabOk (M : Mac) (cs : List (Int × List Vec)) : Prop where
  keys : ∀ e ∈ cs, ∃ i : Nat, e.1 = (i : Int) ∧ i < M.many
  vecs : ∀ e ∈ cs, ∀ v ∈ e.2, v.length = M.kinds.length
  few : cs.length ≤ 1000
  small : ∀ e ∈ cs, e.2.length ≤ 1000
theorem TabOk.held {M : Mac} {cs : List (Int × List Vec)} (h : TabOk M cs) (s : Int) : (∀ v ∈ heldC cs s, v.length = M.kinds.length) ∧ (heldC cs s).length ≤ 1000 := by
  unfold heldC
  cases g : getA cs s with
  | none => exact ⟨fun v hv => absurd hv (by simp), by simp⟩
  | some l => exact ⟨h.vecs _ (getA_mem g), h.small _ (getA_mem g)⟩
def rIsTable (K : PySem.W.Frag) : List V → Hp → Bool → Prop := fun vs Hs b => ∃ (m c l : V) (M : Mac) (cs : List (Int × List Vec)) (t : Bool) (lims : List (Option Int)), vs = [m, c, l] ∧ MacAt K M m Hs ∧ MOk M ∧ DictX K (costsD cs) c Hs ∧ Dp K Hs l (dSeq t (lims.map dO)) ∧ TabOk M cs ∧ b = isTab M cs lims
section
variable {P : Program} {w : World} {K : PySem.W.Frag} {mg : Str → Option Value} {base : Heap}
theorem evp_adder (T : G K mg) {σ : L2.St} {H : Hp} {te : TE} {E : XK} {M : Mac} (O : MOk M) (h : EvP te σ H (MacAt K M)) : EvP (tMake (He.ga K "Adder") (spInit (He.ga K "Adder") (rAddI K)) [] E (tCons te tNil)) σ H (AddAt K M.kinds) :=
  (evp_make (R := rAddI K) (RA := fun vs H2 => ∃ y, vs = [y] ∧ MacAt K M y H2) (Fin := fun fs H2 => ∃ sp, fs.lookup ("spots" : Str) = some sp ∧ DkAt K (spotsE M.kinds) sp H2) (fun Hs' H' a b Q q => h Hs' H' a b _ fun v Hs2 H2 f p => q [v] Hs2 H2 f ⟨v, rfl, p⟩)
      (fun vs Hs Hs' _ e h => by
        obtain ⟨y, rfl, hy⟩ := h
        exact ⟨y, M, rfl, hy.ex e, O.knd, Nat.le_trans O.few (by decide), fun fs H2 h => h⟩) (fun fs H1 H2 e h => by
        obtain ⟨sp, h1, h2⟩ := h
        exact ⟨sp, h1, h2.ex e⟩)).imp fun v H2 _ h => by
        obtain ⟨a, dx, fs, h1, h2, sp, h3, h4⟩ := h
        exact ⟨a, dx, fs, sp, h1, h2, h3, h4.r⟩
theorem ev_klen (T : G K mg) {σ : L2.St} {H : Hp} {te : TE} {M : Mac} (h : EvP te σ H (MacAt K M)) : Ev (tCB (fun xs H Q => ∃ p ys, xs = [.ref p] ∧ (SqL K H p ys ∨ SqT K H p ys) ∧ Q (.int ys.length) H) (tCons (tFld K te "kinds") tNil)) σ H (.int (M.kinds.length : Int)) := by
  have := ev_lenD (t := false) (evd_kinds T h)
  rw [List.length_map] at this
  exact this
theorem evd_zero (T : G K mg) {σ : L2.St} {H : Hp} {te : TE} {M : Mac} (O : MOk M) (h : EvP te σ H (MacAt K M)) :
    EvD K (tCB (fun xs H Q => ∃ p ys, xs = [.ref p] ∧ ((SqL K H p ys ∧ ∀ l, H l = none → Q (.ref l) (upd H l (.tup ys))) ∨ (SqT K H p ys ∧ Q (.ref p) H))) (tCons (tOp rRep (tLst (tCons (tC (.int 0)) tNil)) (tCB (fun xs H Q => ∃ p ys, xs = [.ref p] ∧ (SqL K H p ys ∨ SqT K H p ys) ∧ Q (.int ys.length) H) (tCons (tFld K te "kinds") tNil))) tNil)) σ H (dV (zeroV M.kinds)) := by
  have e : dV (zeroV M.kinds) = .tuple (List.replicate M.kinds.length (.int 0)) := by unfold dV zeroV; rw [List.map_replicate]
  rw [e]
  exact evd_tupleOf (evd_rep0 (ev_klen T h) (Nat.le_trans O.few (by decide)))
/-- any([is_within(x, w) for x in l]) -/
theorem ev_anyBelow {σ : L2.St} {H : Hp} {tl tw : TE} {l : List Vec} {wv : Vec} {j : Nat} (hl : EvD K tl σ H (.list (l.map dV))) (h1 : l.length ≤ 100000) (h2 : ∀ v ∈ l, v.length ≤ 1000) (hw : ∀ u H', Ex H H' → EvD K tw ((wipe σ [j]).set j (some u)) H' (dV wv))
    (w1 : ∀ u, wipe ((wipe σ [j]).set j (some u)) [j] = wipe σ [j]) (w2 : ∀ u, ((wipe σ [j]).set j (some u))[j]? = some (some u)) :
    Ev (tCB (rAny K) (tCons (tLc (iList K tl) (gName j) tYes (tCall (spBelow K) [] E0 (tCons (tVar j) (tCons tw tNil))) [j]) tNil)) σ H (.bl (l.any fun o => below o wv)) := by
  have key := evd_lcM (K := K) (vs := [j]) (te := tCall (spBelow K) [] E0 (tCons (tVar j) (tCons tw tNil))) l (fun o => PyData.bool (below o wv)) (wk_listA l dV (j := j) hl) h1 fun i o σ2 H' hi e hS => by
    obtain ⟨u', ⟨a1, e1, p1⟩, rfl⟩ := hS
    rw [hi] at e1
    cases e1
    refine ⟨w1 u', evd_bl (evb_call (R := fun vs H2 => DpAll K H2 vs [dV o, dV wv]) (ead_cons (evd_var (w2 u') p1) (ead_cons (hw u' H' e) ead_nil)) fun Hs3 H3 _ e4 vs hvs Q0 hQ => ?_)⟩
    obtain ⟨a, b, rfl, r1, r2⟩ := dps2 hvs
    refine ⟨Hs3, a, b, o, true, wv.map some, rfl, e4, r1, by rw [← dV_seq]; exact r2, h2 o (List.mem_of_getElem? hi), fun H2 e5 => ?_⟩
    rw [belowO_some]
    exact hQ H2 e5
  have em : l.map (fun o => PyData.bool (below o wv)) = (l.map fun o => below o wv).map PyData.bool := by rw [List.map_map]; rfl
  rw [em] at key
  have := ev_any key
  rw [List.any_map] at this
  exact this
/-- is_within(x, l) -/
theorem ev_within {σ : L2.St} {H : Hp} {tv tl : TE} {E : XK} {v : Vec} {t : Bool} {lims : List (Option Int)} (hv : EvD K tv σ H (dV v)) (hl : EvD K tl σ H (dSeq t (lims.map dO))) (h1 : v.length ≤ 1000) : Ev (tCall (spBelow K) [] E (tCons tv (tCons tl tNil))) σ H (.bl (belowO v lims)) :=
  evb_call (R := fun vs H2 => DpAll K H2 vs [dV v, dSeq t (lims.map dO)]) (ead_cons hv (ead_cons hl ead_nil)) fun Hs3 H3 _ e4 vs hvs Q0 hQ => by
    obtain ⟨a, b, rfl, r1, r2⟩ := dps2 hvs
    exact ⟨Hs3, a, b, v, t, lims, rfl, e4, r1, r2, h1, hQ⟩
abbrev NIT : List Str := ["machine", "costs", "limits", "after", "start", "state", "vectors", "step", "vector", "late", "held", "other"]
theorem scIsTable : FnScope NIT ["machine", "costs", "limits"] (defScope sIsTable) := ⟨rfl, rfl, rfl, by decide +kernel, rfl, by decide +kernel, by decide +kernel⟩
theorem ok_isTable (T : G K mg) : Ok P w K mg base CX0 3 (He.ga K "is_table") ["machine", "costs", "limits"] (spB K (rIsTable K)) := by
  obtain ⟨fd, F⟩ := T.fun0 22
  obtain ⟨fdA, GA, bA, kA⟩ := ok_addI (P := P) (w := w) (base := base) T
  obtain ⟨fdC, GC, bC, kC⟩ := ok_addC (P := P) (w := w) (base := base) T
  obtain ⟨fdB, GB, bB, kB⟩ := ok_within (P := P) (w := w) (base := base) T
  refine ok_of F scIsTable (fun vs H Q E h => ?_) (fun _ _ _ _ _ _ us hl => match us, hl with | [_, _, _], _ => rfl) fun cdv A outer s H vs Q E hr h => ?_
  · obtain ⟨_, _, _, ⟨_, _, _, _, _, _, _, rfl, _⟩, _⟩ := h
    rfl
  · obtain ⟨Hs, b, eH, ⟨m, c, l, M, cs, t, lims, rfl, hm, O, hc, hl, hT, rfl⟩, kQ⟩ := h
    refine ⟨_, pss_cons (ps_set (i := 3) scIsTable.nd rfl (Or.inl rfl) (pe_make (T.make "Adder") GA (hr.mono (by decide)) rfl (T.gl "Adder") bA .nil pass0 (pa_cons (pv 0) pa_nil)))
      (pss_cons (ps_set (i := 4) scIsTable.nd rfl (Or.inr rfl) (pe_callTy call_tuple_of rfl (T.fr "tuple") (by decide +kernel) (pa_cons (pe_op op_rep (pe_lst (pa_cons pe_int pa_nil)) (pe_callB call_len_seq rfl (T.fr "len") (by decide +kernel) (pa_cons (pe_fld (pv 0) rfl) pa_nil))) pa_nil)))
      (pss_cons (ps_if (pt_not (pt_val (pe_callB (cr_any rfl) rfl (T.fr "any") (by decide +kernel) (pa_cons (pe_lc (own := [("vector", 8)]) (g := gName 8) (tt := tYes) (te := tCall (spBelow K) [] E0 (tCons (tVar 8) (tCons (tVar 4) tNil))) rfl scIsTable.nd (pi_list (pe_dget2 (room_1 hr) (pv 1) pe_int (pe_lst pa_nil) ⟨rfl, rfl, rfl, rfl⟩)) (blkOk_by (N := NIT) (sc := defScope sIsTable) (by decide +kernel))
          (fun _ _ _ _ _ => pg_name (i := 8) scIsTable.nd rfl (Or.inl rfl)) (fun _ _ _ _ _ => pts_nil) (fun _ _ _ _ _ => pe_call GB hr rfl (T.gl "is_within") kB bB .nil pass0 (pa_cons (pv 8) (pa_cons (pv 4) pa_nil)))) pa_nil)))) (pss_one (ps_ret pe_bl)) pss_nil)
      (pss_cons (ps_lock (ps_for PassesOwn.never rfl (pi_items (pv 1)) (pg_tup rfl (pgs_cons (pg_name (i := 5) scIsTable.nd rfl (Or.inl rfl)) (pgs_cons (pg_name (i := 6) scIsTable.nd rfl (Or.inl rfl)) pgs_nil)))
        (pss_one (ps_for PassesOwn.never rfl (pi_list (pe_dget (room_1 hr) (pe_fld (pv 0) rfl) (pv 5) (fun _ _ => rfl))) (pg_name (i := 7) scIsTable.nd rfl (Or.inl rfl))
          (pss_one (ps_for PassesOwn.never rfl (pi_list (pv 6)) (pg_name (i := 8) scIsTable.nd rfl (Or.inl rfl))
            (pss_cons (ps_set (i := 9) scIsTable.nd rfl (Or.inr rfl) (StX.pe_callO (pv 3) T.call (FnOk.r GC bC) (hr.mono (by decide)) pass0 (pa_cons (pv 8) (pa_cons (pv 7) pa_nil))))
            (pss_cons (ps_set (i := 10) scIsTable.nd rfl (Or.inl rfl) (pe_dget2 (room_1 hr) (pv 1) (pe_ix ix_tup (pv 7) pe_int (fun _ _ => rfl)) (pe_lst pa_nil) ⟨rfl, rfl, rfl, rfl⟩))
            (pss_one (ps_if (PW.pt (pw_and (pt_val (pe_call GB hr rfl (T.gl "is_within") kB bB .nil pass0 (pa_cons (pv 9) (pa_cons (pv 2) pa_nil))))
                (pw_and1 (pt_not (pt_val (pe_callB (cr_any rfl) rfl (T.fr "any") (by decide +kernel) (pa_cons (pe_lc (own := [("other", 11)]) (g := gName 11) (tt := tYes) (te := tCall (spBelow K) [] E0 (tCons (tVar 11) (tCons (tVar 9) tNil))) rfl scIsTable.nd (pi_list (pv 10)) (blkOk_by (N := NIT) (sc := defScope sIsTable) (by decide +kernel))
                  (fun _ _ _ _ _ => pg_name (i := 11) scIsTable.nd rfl (Or.inl rfl)) (fun _ _ _ _ _ => pts_nil) (fun _ _ _ _ _ => pe_call GB hr rfl (T.gl "is_within") kB bB .nil pass0 (pa_cons (pv 11) (pa_cons (pv 9) pa_nil)))) pa_nil))))))) (pss_one (ps_ret pe_bl)) pss_nil))))))))))
      (pss_one (ps_ret pe_bl))))), ?_⟩
    have few := O.few
    refine y_asg (evp_adder T O (evp_mac (i := 0) (σ := start NIT [m, c, l]) (v := m) rfl hm)) eH fun av Hs1 H1 f1 ha => ?_
    dsimp only
    refine y_asg (evd_zero T O (evp_mac (i := 0) (σ := (start NIT [m, c, l]).set 3 (some av)) (v := m) rfl (hm.ex f1.b))) f1.c fun sv Hs2 H2 f2 hsv => ?_
    dsimp only
    have b2 : Ex Hs Hs2 := f1.b.trans f2.b
    have hc2 : DictX K (costsD cs) c Hs2 := hc.ex b2
    have hm2 := hm.ex b2
    have ha2 : AddAt K M.kinds av Hs2 := ha.ex f2.b
    have t1 := et_not (et_B (ev_anyBelow (K := K) (j := 8) (σ := ((start NIT [m, c, l]).set 3 (some av)).set 4 (some sv)) (H := Hs2) (tw := tVar 4) (wv := zeroV M.kinds) (evd_held (cs := cs) (s := 0) (evp_of (ev_var (i := 1) (v := c) rfl) fun _ e => (hc2.ex e).at) (ev_c (v := .int 0)))
      (Nat.le_trans (hT.held 0).2 (by decide)) (fun v hv => by rw [(hT.held 0).1 v hv]; omega) (fun u H' e => evd_var (i := 4) (v := sv) rfl (dp_ex e hsv)) (fun _ => rfl) (fun _ => rfl)))
    refine y_if t1 f2.c (fun hb H3 e3 => ?_) fun hb H3 e3 => ?_
    · refine y_ret (evd_c (K := K) (.bl false)) (f2.c.trans e3) fun v Hs4 H4 f4 hv => ?_
      rw [dp_bl hv]
      have e : isTab M cs lims = false := by
        unfold isTab
        have : ((heldC cs 0).any fun v => below v (zeroV M.kinds)) = false := by simpa using hb
        rw [this]
        rfl
      rw [← e]
      exact kQ _ (f1.a.trans (f2.a.trans (e3.trans f4.a)))
    · have hst : ((heldC cs 0).any fun v => below v (zeroV M.kinds)) = true := by simpa using hb
      have eis : isTab M cs lims = tabClosed M cs lims := by unfold isTab; rw [hst, Bool.true_and]
      rw [eis] at kQ
      refine y_next ?_
      dsimp only
      obtain ⟨d, kvs, rfl, hd, hde⟩ := hc2
      have hd3 : H3 d = some (.dK kvs) := e3 _ _ (f2.c _ _ hd)
      refine ⟨d, .dK kvs, hd3, trivial, fun od => ?_⟩
      have el : Ex (upd Hs2 d (.frz od (.dK kvs))) (upd H3 d (.frz od (.dK kvs))) := ex_frz (f2.c.trans e3)
      have er : Er Hs2 (upd Hs2 d (.frz od (.dK kvs))) := er_frz hd
      have hml := hm2.er er
      have hal := ha2.er er
      have hcl : DictAt K (costsD cs) (.ref d) (upd Hs2 d (.frz od (.dK kvs))) := ⟨d, kvs, rfl, .inr ⟨od, upd_same⟩, entD_er er hde⟩
      have hll : Dp K (upd Hs2 d (.frz od (.dK kvs))) l (dSeq t (lims.map dO)) := dp_er er (dp_ex b2 hl)
      have hfl : FrzAt K (costsD cs) (.ref d) (upd Hs2 d (.frz od (.dK kvs))) := ⟨d, od, kvs, rfl, upd_same, entD_er er hde⟩
      -- the answer
      have ans : ∀ (b : Bool) (H' : Hp), Ex (upd H3 d (.frz od (.dK kvs))) H' → b = tabClosed M cs lims → H' d = some (.frz od (.dK kvs)) ∧ Q (.bl b) (upd H' d (.dK kvs)) := fun b H' e eb => by
        subst eb
        refine ⟨e _ _ upd_same, kQ _ ?_⟩
        exact (f1.a.trans (f2.a.trans e3)).trans (ex_back hd3 e)
      have bad : ∀ (e : Int × List Vec) (st : Stp) (v : Vec), e ∈ cs → st ∈ M.ways e.1.toNat → v ∈ e.2 → (belowO (bump M.kinds v st.ki) lims && !(heldC cs st.go).any fun o => below o (bump M.kinds v st.ki)) = true → false = tabClosed M cs lims := fun e st v h1 h2 h3 h4 => by
        cases q : tabClosed M cs lims with
        | false => rfl
        | true =>
          unfold tabClosed at q
          have q1 := List.all_eq_true.mp q e h1
          have q2 := List.all_eq_true.mp q1 st h2
          have q3 := List.all_eq_true.mp q2 v h3
          rw [h4] at q3
          cases q3
      obtain ⟨Hl, eHl⟩ : ∃ Hl, Hl = upd H3 d (.frz od (.dK kvs)) := ⟨_, rfl⟩
      obtain ⟨Hsl, eHsl⟩ : ∃ Hsl, Hsl = upd Hs2 d (.frz od (.dK kvs)) := ⟨_, rfl⟩
      rw [← eHl] at ans el ⊢
      rw [← eHsl] at el er hml hal hcl hll hfl
      refine y_for (wk_items (K := K) (j := 5) (k := 6) (σ := ((start NIT [m, .ref d, l]).set 3 (some av)).set 4 (some sv)) (evp_of (ev_var (i := 1) (v := .ref d) rfl) fun _ e => hfl.ex e)) el
        (fun i σ' Hs' H' => Ex Hsl Hs' ∧ Ex Hl H' ∧ (∀ e ∈ cs.take i, ∀ st ∈ M.ways e.1.toNat, ∀ v ∈ e.2, (belowO (bump M.kinds v st.ki) lims && !(heldC cs st.go).any fun o => below o (bump M.kinds v st.ki)) = false) ∧ ∃ x5 x6 x7 x8 x9 x10 x11, σ' = [some m, some (.ref d), some l, some av, some sv, x5, x6, x7, x8, x9, x10, x11])
        (fun Hs4 H4 f4 => ⟨f4.b, f4.a, fun e he => absurd he (by simp), none, none, none, none, none, none, none, rfl⟩) (fun i σ' Hs' H' hi f iv σ4 Hs4 H4 f4 hS N hN => ?_) fun σ' Hs' H' f iv => ?_
      · obtain ⟨ex, eh, hdone, x5, x6, x7, x8, x9, x10, x11, rfl⟩ := iv
        obtain ⟨u, u', ⟨ed, hed, rfl, hpd⟩, rfl⟩ := hS
        obtain ⟨e, he, rfl⟩ : ∃ e, cs[i]? = some e ∧ ed = (e.1, PyData.list (e.2.map dV)) := by
          unfold costsD at hed
          rw [List.getElem?_map] at hed
          cases g : cs[i]? with
          | none => rw [g] at hed; cases hed
          | some e => rw [g] at hed; cases hed; exact ⟨e, rfl, rfl⟩
        have hem := List.mem_of_getElem? he
        obtain ⟨k, hk, hkm⟩ := hT.keys e hem
        have ex4 := ex.trans f4.b
        have eh4 := eh.trans f4.a
        have ekn : e.1.toNat = k := by omega
        rw [hk]
        refine y_for (wk_listA (M.ways k) dStp (j := 7) (evd_dget (evp_ways T (evp_mac (i := 0) (σ := [some m, some (.ref d), some l, some av, some sv, some (.int (k : Int)), some u', x7, x8, x9, x10, x11]) (v := m) rfl (hml.ex ex4))) (ev_var (i := 5) (v := .int (k : Int)) rfl) (waysD_at M hkm))) f4.c
          (fun j σ' Hs' H' => Ex Hsl Hs' ∧ Ex Hl H' ∧ Ex Hs4 Hs' ∧ (∀ st ∈ (M.ways k).take j, ∀ v ∈ e.2, (belowO (bump M.kinds v st.ki) lims && !(heldC cs st.go).any fun o => below o (bump M.kinds v st.ki)) = false) ∧ ∃ x7 x8 x9 x10 x11, σ' = [some m, some (.ref d), some l, some av, some sv, some (.int (k : Int)), some u', x7, x8, x9, x10, x11])
          (fun Hs5 H5 f5 => ⟨ex4.trans f5.b, eh4.trans f5.a, f5.b, fun st hst => absurd hst (by simp), x7, x8, x9, x10, x11, rfl⟩) (fun j σ' Hs' H' hj f' iv σ5 Hs5 H5 f5 hS N' hN' => ?_) fun σ' Hs' H' f' iv => ?_
        · obtain ⟨exs, ehs, ex44, hdone2, y7, y8, y9, y10, y11, rfl⟩ := iv
          obtain ⟨w7, ⟨st, hst, hp7⟩, rfl⟩ := hS
          have hstm := List.mem_of_getElem? hst
          have exs5 := exs.trans f5.b
          have ehs5 := ehs.trans f5.a
          have u'5 : Dp K Hs5 u' (.list (e.2.map dV)) := dp_ex (ex44.trans f5.b) hpd
          refine y_for (wk_listA e.2 dV (j := 8) (evd_var (K := K) (i := 6) (σ := [some m, some (.ref d), some l, some av, some sv, some (.int (k : Int)), some u', some w7, y8, y9, y10, y11]) (v := u') rfl u'5)) f5.c
            (fun q σ' Hs' H' => Ex Hsl Hs' ∧ Ex Hl H' ∧ Ex Hs5 Hs' ∧ (∀ v ∈ e.2.take q, (belowO (bump M.kinds v st.ki) lims && !(heldC cs st.go).any fun o => below o (bump M.kinds v st.ki)) = false) ∧ ∃ x8 x9 x10 x11, σ' = [some m, some (.ref d), some l, some av, some sv, some (.int (k : Int)), some u', some w7, x8, x9, x10, x11])
            (fun Hs6 H6 f6 => ⟨exs5.trans f6.b, ehs5.trans f6.a, f6.b, fun v hv => absurd hv (by simp), y8, y9, y10, y11, rfl⟩) (fun q σ' Hs' H' hq f'' iv σ6 Hs6 H6 f6 hS N'' hN'' => ?_) fun σ' Hs' H' f'' iv => ?_
          · obtain ⟨exq, ehq, ex55, hdone3, z8, z9, z10, z11, rfl⟩ := iv
            obtain ⟨w8, ⟨v, hv, hp8⟩, rfl⟩ := hS
            have hvm := List.mem_of_getElem? hv
            have hvl := hT.vecs e hem v hvm
            have exq6 := exq.trans f6.b
            have stv : ∀ {H0 : Hp} {z9 z10 z11 : Option V}, Ex Hs6 H0 → EvD K (tVar 7) [some m, some (.ref d), some l, some av, some sv, some (.int (k : Int)), some u', some w7, some w8, z9, z10, z11] H0 (dStp st) := fun {H0 z9 z10 z11} e => evd_var (v := w7) rfl (dp_ex (ex55.trans (f6.b.trans e)) hp7)
            -- late = after(vector, step)
            have late : EvD K (StX.tCallO (cxOf CX0 P w K mg base NIT "is_table" (defScope sIsTable) (He.ga K "is_table") cdv A outer s H E).nox (He.ga K "Adder") (spD K (rAddC K)) E0 (tVar 3) (tCons (tVar 8) (tCons (tVar 7) tNil))) [some m, some (.ref d), some l, some av, some sv, some (.int (k : Int)), some u', some w7, some w8, z9, z10, z11] Hs6 (dV (bump M.kinds v st.ki)) := by
              intro Ha Hb a b' Qq qq
              obtain ⟨ad, adx, afs, asp, rfl, ah, as1, as2⟩ := id (hal.ex (exq6.trans a))
              refine ⟨.ref ad, rfl, ad, rfl, ead_cons (evd_var (K := K) (i := 8) (v := w8) rfl (dp_ex a hp8)) (ead_cons (stv a) ead_nil) Ha Hb (Ex.refl _) b' _ fun ws Hc Hd fc hws => ?_⟩
              obtain ⟨w1, w2, rfl, w1', w2'⟩ := dps2 hws
              exact ⟨.inr ⟨adx, afs, fc.c _ _ (fc.b _ _ ah)⟩, Hc, _, fc.c, ⟨.ref ad, w1, w2, M.kinds, v, st, rfl, (hal.ex (exq6.trans a)).ex fc.b, w1', w2', hvl, O.knd, Nat.le_trans O.few (by decide), O.kne, O.ki k st hstm, rfl⟩, fun r1 He Hf fe hr1 => qq r1 He Hf (fc.trans fe) hr1⟩
            refine y_asg late f6.c fun lv Hs7 H7 f7 hlv => ?_
            dsimp only
            have exq7 := exq6.trans f7.b
            refine y_asg (evd_held (cs := cs) (s := st.go) (evp_of (ev_var (i := 1) (v := .ref d) rfl) fun _ e => hcl.ex (exq7.trans e)) (ev_int (evd_go (stv (z9 := some lv) (z10 := z10) (z11 := z11) f7.b)))) f7.c fun hv8 Hs8 H8 f8 hhv => ?_
            dsimp only
            have exq8 := exq7.trans f8.b
            have t2 := et_and (et_B (ev_within (K := K) (E := E0) (σ := [some m, some (.ref d), some l, some av, some sv, some (.int (k : Int)), some u', some w7, some w8, some lv, some hv8, z11]) (tv := tVar 9) (tl := tVar 2) (t := t) (lims := lims) (evd_var (i := 9) (v := lv) rfl (dp_ex f8.b hlv)) (evd_var (i := 2) (v := l) rfl (dp_ex exq8 hll)) (by rw [len_bump st.ki hvl]; omega)))
              fun _ => et_not (et_B (ev_anyBelow (K := K) (j := 11) (tl := tVar 10) (tw := tVar 9) (l := heldC cs st.go) (wv := bump M.kinds v st.ki) (evd_var (i := 10) (v := hv8) rfl hhv) (Nat.le_trans (hT.held st.go).2 (by decide)) (fun z hz => by rw [(hT.held st.go).1 z hz]; omega) (fun u H' e => evd_var (i := 9) (v := lv) rfl (dp_ex (f8.b.trans e) hlv)) (fun _ => rfl) (fun _ => rfl)))
            refine y_if t2 f8.c (fun hb H9 e9 => ?_) fun hb H9 e9 => ?_
            · refine y_ret (evd_c (K := K) (.bl false)) (f8.c.trans e9) fun v' Hs10 H10 f10 hv' => ?_
              rw [dp_bl hv']
              exact ans false H10 (ehq.trans (f6.a.trans (f7.a.trans (f8.a.trans (e9.trans f10.a))))) (bad e st v hem (by rw [ekn]; exact hstm) hvm hb)
            · refine hN'' _ Hs8 H9 ((f6.trans (f7.trans f8)).trans (fw_skip f8.c e9)).m ⟨exq8, ehq.trans (f6.a.trans (f7.a.trans (f8.a.trans e9))), ex55.trans (f6.b.trans (f7.b.trans f8.b)), fun v' hv' => ?_, some w8, some lv, some hv8, z11, rfl⟩
              rw [List.take_add_one, hv] at hv'
              rcases List.mem_append.mp hv' with z | z
              · exact hdone3 v' z
              · have z' : v' = v := by simpa using z
                rw [z']
                exact hb
          · obtain ⟨exq, ehq, ex55, hdone3, z8, z9, z10, z11, rfl⟩ := iv
            refine hN' _ Hs' H' (f5.m.trans f'') ⟨exq, ehq, ex44.trans (f5.b.trans ex55), fun st' hst' => ?_, some w7, z8, z9, z10, z11, rfl⟩
            rw [List.take_add_one, hst] at hst'
            rcases List.mem_append.mp hst' with z | z
            · exact hdone2 st' z
            · have z' : st' = st := by simpa using z
              rw [z']
              intro v hv
              exact hdone3 v (by rw [List.take_length]; exact hv)
        · obtain ⟨exs, ehs, ex44, hdone2, y7, y8, y9, y10, y11, rfl⟩ := iv
          refine hN _ Hs' H' (f4.m.trans f') ⟨exs, ehs, fun e' he' => ?_, some (.int (k : Int)), some u', y7, y8, y9, y10, y11, rfl⟩
          rw [List.take_add_one, he] at he'
          rcases List.mem_append.mp he' with z | z
          · exact hdone e' z
          · have z' : e' = e := by simpa using z
            rw [z', ekn]
            intro st hst v hv
            exact hdone2 st (by rw [List.take_length]; exact hst) v hv
      · obtain ⟨ex, eh, hdone, x5, x6, x7, x8, x9, x10, x11, rfl⟩ := iv
        have eok : tabClosed M cs lims = true := by
          unfold tabClosed
          refine List.all_eq_true.mpr fun e he => List.all_eq_true.mpr fun st hst => List.all_eq_true.mpr fun v hv => ?_
          have := hdone e (by
            have : (costsD cs).length = cs.length := by unfold costsD; rw [List.length_map]
            rw [this, List.take_length]; exact he) st hst v hv
          rw [this]
          rfl
        obtain ⟨q1, q2⟩ := ans true H' eh eok.symm
        exact ⟨q1, q2⟩
end
end K02
set_option Elab.async false
set_option linter.all false
set_option maxRecDepth 100000
set_option maxHeartbeats 1000000
/-! ### Least.shows -/
namespace K02
open PySem PySem.Spec PyProof.Rows L2 Evl
def dRun (r : List Stp) : PyData := .list (r.map dStp)
abbrev lFs (c v r : V) : List (Str × V) := [("costs", c), ("vectors", v), ("runs", r)]
/-- an instance of Least -/
def LeastAt (K : PySem.W.Frag) (vs : List Vec) (rs : List (List Stp)) (cs : List (Int × List Vec)) (x : V) (H : Hp) : Prop := ∃ (a dx : Addr) (c v r : V), x = .ref a ∧ H a = some (.ins (He.ga K "Least") dx (lFs c v r)) ∧ DictX K (costsD cs) c H ∧ Dp K H v (.list (vs.map dV)) ∧ Dp K H r (.list (rs.map dRun))
theorem LeastAt.ex {K : PySem.W.Frag} {vs : List Vec} {rs : List (List Stp)} {cs : List (Int × List Vec)} {x : V} {H H' : Hp} (e : Ex H H') (h : LeastAt K vs rs cs x H) : LeastAt K vs rs cs x H' := by
  obtain ⟨a, dx, c, v, r, h1, h2, h3, h4, h5⟩ := h
  exact ⟨a, dx, c, v, r, h1, e _ _ h2, h3.ex e, dp_ex e h4, dp_ex e h5⟩
section
variable {K : PySem.W.Frag} {mg : Str → Option Value} {σ : L2.St} {H : Hp} {te ta tb : TE} {vs : List Vec} {rs : List (List Stp)} {cs : List (Int × List Vec)}
theorem evp_lcosts (T : G K mg) (h : EvP te σ H (LeastAt K vs rs cs)) : EvP (tFld K te "costs") σ H (DictX K (costsD cs)) := evp_fld h (T.cl "Least") (T.no "Least" "costs") fun v Hs _ q => by
  obtain ⟨a, dx, c, v, r, h1, h2, h3, h4, h5⟩ := q
  exact ⟨a, dx, _, _, h1, h2, rfl, h3⟩
theorem evd_lvecs (T : G K mg) (h : EvP te σ H (LeastAt K vs rs cs)) : EvD K (tFld K te "vectors") σ H (.list (vs.map dV)) := evp_fld h (T.cl "Least") (T.no "Least" "vectors") fun v Hs _ q => by
  obtain ⟨a, dx, c, v, r, h1, h2, h3, h4, h5⟩ := q
  exact ⟨a, dx, _, _, h1, h2, rfl, h4⟩
theorem evd_lruns (T : G K mg) (h : EvP te σ H (LeastAt K vs rs cs)) : EvD K (tFld K te "runs") σ H (.list (rs.map dRun)) := evp_fld h (T.cl "Least") (T.no "Least" "runs") fun v Hs _ q => by
  obtain ⟨a, dx, c, v, r, h1, h2, h3, h4, h5⟩ := q
  exact ⟨a, dx, _, _, h1, h2, rfl, h5⟩
theorem eqvAll_V : ∀ l m : List Vec, PyData.eqvAll (l.map dV) (m.map dV) = decide (l = m)
  | [], [] => by simp [PyData.eqvAll]
  | [], _ :: _ => by simp [PyData.eqvAll]
  | _ :: _, [] => by simp [PyData.eqvAll]
  | a :: l, b :: m => by
    show PyData.eqvAll (dV a :: l.map dV) (dV b :: m.map dV) = _
    rw [PyData.eqvAll, eqvAll_V l m, eqv_V]
    by_cases e : a = b <;> simp [e]
theorem eqv_Vs (l m : List Vec) : PyData.eqv (.list (l.map dV)) (.list (m.map dV)) = decide (l = m) := by
  rw [PyData.eqv, eqvAll_V]
theorem ev_neVs {l m : List Vec} (ha : EvD K ta σ H (.list (l.map dV))) (hb : EvD K tb σ H (.list (m.map dV))) : Ev (tOp (rNeD K) ta tb) σ H (.bl (decide (l ≠ m))) := by
  have h := ev_neD ha hb (shaped_Vs l) (shaped_Vs m)
  rw [eqv_Vs] at h
  have e : (!decide (l = m)) = decide (l ≠ m) := by simp
  rw [e] at h
  exact h
theorem ev_eqVs {l m : List Vec} (ha : EvD K ta σ H (.list (l.map dV))) (hb : EvD K tb σ H (.list (m.map dV))) : Ev (tOp (rEqD K) ta tb) σ H (.bl (decide (l = m))) := by
  have h := ev_eqD ha hb (shaped_Vs l) (shaped_Vs m)
  rw [eqv_Vs] at h
  exact h
theorem ev_neV {l m : Vec} (ha : EvD K ta σ H (dV l)) (hb : EvD K tb σ H (dV m)) : Ev (tOp (rNeD K) ta tb) σ H (.bl (decide (l ≠ m))) := by
  have h := ev_neD ha hb (shaped_V l) (shaped_V m)
  rw [eqv_V] at h
  have e : (!decide (l = m)) = decide (l ≠ m) := by simp
  rw [e] at h
  exact h
theorem ev_eqV {l m : Vec} (ha : EvD K ta σ H (dV l)) (hb : EvD K tb σ H (dV m)) : Ev (tOp (rEqD K) ta tb) σ H (.bl (decide (l = m))) := by
  have h := ev_eqD ha hb (shaped_V l) (shaped_V m)
  rw [eqv_V] at h
  exact h
theorem ev_neI {i j : Int} (ha : Ev ta σ H (.int i)) (hb : Ev tb σ H (.int j)) : Ev (tOp rNe ta tb) σ H (.bl (decide (i ≠ j))) := by
  have h := ev_op ha hb (rv_ne (H := H) (x := .int i) (y := .int j) rfl)
  have e : (!decide (V.int i = V.int j)) = decide (i ≠ j) := by
    by_cases q : i = j
    · subst q; simp
    · have : ¬ V.int i = V.int j := fun z => q (V.int.inj z)
      simp [q, this]
  rw [e] at h
  exact h
theorem ev_eqI {i j : Int} (ha : Ev ta σ H (.int i)) (hb : Ev tb σ H (.int j)) : Ev (tOp rEq ta tb) σ H (.bl (decide (i = j))) := by
  have h := ev_op ha hb (rv_eq (H := H) (x := .int i) (y := .int j) rfl)
  have e : (decide (V.int i = V.int j)) = decide (i = j) := by
    by_cases q : i = j
    · subst q; simp
    · have : ¬ V.int i = V.int j := fun z => q (V.int.inj z)
      simp [q, this]
  rw [e] at h
  exact h
theorem inV_int (i : Int) : ∀ gs : List Int, inV (.int i) (gs.map .int) = decide (i ∈ gs)
  | [] => by simp [inV]
  | g :: gs => by
    have ih := inV_int i gs
    unfold inV at ih ⊢
    rw [List.map_cons, List.any_cons, ih]
    show ((g == i) || decide (i ∈ gs)) = decide (i ∈ g :: gs)
    by_cases q : g = i
    · subst q; simp
    · have q' : ¬ i = g := fun z => q z.symm
      simp [q, q']
theorem flat_ints : ∀ gs : List Int, (gs.map V.int).all flatV = true
  | [] => rfl
  | g :: gs => by rw [List.map_cons, List.all_cons, flat_ints gs]; rfl
theorem ev_inTI {neg : Bool} {i : Int} {gs : List Int} (ha : Ev ta σ H (.int i)) (hb : EvD K tb σ H (.tuple (gs.map .int))) : Ev (tOp (rIn K neg) ta tb) σ H (.bl (if neg then !decide (i ∈ gs) else decide (i ∈ gs))) := fun H1 e Q q =>
  ha H1 e _ fun H2 e2 => hb H H2 (Ex.refl _) (e.trans e2) _ fun v Hs3 H3 f3 p => by
    obtain ⟨a, xs, rfl, hx, hd⟩ := dp_tup p
    rw [dps_ints_eq hd] at hx
    have h := rv_inT (K := K) (H := H3) (neg := neg) (x := .int i) (ex_t f3.c hx) rfl (flat_ints gs) H3 (Ex.refl _) Q fun H4 e4 => by
      rw [inV_int]
      exact q H4 (e2.trans (f3.a.trans e4))
    exact h
theorem evd_repN {tn : TE} {n : Nat} (hn : Ev tn σ H (.int (n : Int))) (hz : n ≤ 1000) : EvD K (tOp rRep (tLst (tCons (tC .non) tNil)) tn) σ H (.list ((List.replicate n none).map dO)) := fun Hs H1 a b Q q =>
  ⟨by show 1 ≤ sizeLine; decide, fun p hp => hn _ ((a.trans b).trans (Ex.new hp)) _ fun H2 e2 => ⟨p, n, [.non], rfl, rfl, e2 p _ upd_same, by omega, by omega, by rw [Int.toNat_natCast, List.length_singleton, Nat.one_mul]; exact sz_of (by omega), fun l hl => by
    have fw : Fw Hs H1 Hs H2 := Fw.skip b ((Ex.new hp).trans e2)
    have e : (List.replicate ((n : Int)).toNat [V.non]).flatten = List.replicate n V.non := by
      rw [Int.toNat_natCast]
      have : ∀ m : Nat, (List.replicate m [V.non]).flatten = List.replicate m V.non := fun m => by
        induction m with
        | zero => rfl
        | succ m ih => rw [List.replicate_succ, List.flatten_cons, ih, List.replicate_succ]; rfl
      exact this n
    rw [e]
    have d0 : ∀ m : Nat, DpAll K (upd Hs l (.lst (List.replicate n V.non))) (List.replicate m V.non) (List.replicate m (dO none)) := fun m => by
      induction m with
      | zero => exact .nil
      | succ m ih => exact .cons .non ih
    refine q _ _ _ (fw.trans (Fw.new fw.c hl)) ?_
    rw [List.map_replicate]
    exact .lst (sq_of upd_same) (d0 n)⟩⟩
theorem eap2 {P1 P2 : V → Hp → Prop} (h1 : EvP ta σ H P1) (m1 : ∀ v H1 H2, Ex H1 H2 → P1 v H1 → P1 v H2) (h2 : EvP tb σ H P2) : EvAP (tCons ta (tCons tb tNil)) σ H (fun vs H2 => ∃ x y, vs = [x, y] ∧ P1 x H2 ∧ P2 y H2) := fun Hs H1 a b Q q =>
  h1 Hs H1 a b _ fun v Hs2 H2 f p => h2 Hs2 H2 (a.trans f.b) f.c _ fun u Hs3 H3 f3 p3 => q _ Hs3 H3 (f.trans f3) ⟨v, u, rfl, m1 _ _ _ f3.b p, p3⟩
theorem eap3 {P1 P2 P3 : V → Hp → Prop} {tc : TE} (h1 : EvP ta σ H P1) (m1 : ∀ v H1 H2, Ex H1 H2 → P1 v H1 → P1 v H2) (h2 : EvP tb σ H P2) (m2 : ∀ v H1 H2, Ex H1 H2 → P2 v H1 → P2 v H2) (h3 : EvP tc σ H P3) : EvAP (tCons ta (tCons tb (tCons tc tNil))) σ H (fun vs H2 => ∃ x y z, vs = [x, y, z] ∧ P1 x H2 ∧ P2 y H2 ∧ P3 z H2) := fun Hs H1 a b Q q =>
  h1 Hs H1 a b _ fun v Hs2 H2 f p => h2 Hs2 H2 (a.trans f.b) f.c _ fun u Hs3 H3 f3 p3 => h3 Hs3 H3 (a.trans (f.b.trans f3.b)) f3.c _ fun z Hs4 H4 f4 p4 => q _ Hs4 H4 ((f.trans f3).trans f4) ⟨v, u, z, rfl, m1 _ _ _ (f3.b.trans f4.b) p, m2 _ _ _ f4.b p3, p4⟩
end
/-- no limits -/
def noLim (M : Mac) : List (Option Int) := List.replicate M.kinds.length none
theorem evd_call1' {K : PySem.W.Frag} {σ : L2.St} {H : Hp} {E : XK} {ta : TA} {A : List V → Hp → Prop} {R : List V → Hp → PyData → Prop} {d : PyData} (h : EvAP ta σ H A) (hR : ∀ vs Hs, A vs Hs → R vs Hs d) : EvD K (tCall (spD K R) [] E ta) σ H d :=
  evp_call (R := A) h fun Hs H1 a b vs hvs Q hQ => ⟨Hs, d, b, by rw [List.append_nil]; exact hR vs Hs hvs, hQ⟩
theorem evb_call1' {K : PySem.W.Frag} {σ : L2.St} {H : Hp} {E : XK} {ta : TA} {A : List V → Hp → Prop} {R : List V → Hp → Bool → Prop} {b : Bool} (h : EvAP ta σ H A) (hR : ∀ vs Hs, A vs Hs → R vs Hs b) : Ev (tCall (spB K R) [] E ta) σ H (.bl b) :=
  evb_call (R := A) h fun Hs H1 a c vs hvs Q hQ => ⟨Hs, b, c, by rw [List.append_nil]; exact hR vs Hs hvs, hQ⟩
def showsB (M : Mac) (gs : List Int) (vs : List Vec) (rs : List (List Stp)) (cs : List (Int × List Vec)) : Bool :=
  !(decide (vs ≠ leastOf vs) || decide (rs.length ≠ vs.length)) && ((vs.zip rs).all fun p => !(!decide (endOf 0 p.2 ∈ gs) || decide (fallsOf M.kinds p.2 ≠ p.1))) && isTab M cs (noLim M) && (heldAll cs gs).all fun o => vs.any fun v => below v o
def okGoals (M : Mac) (gs : List Int) : Prop := okStates M.many (.tuple (gs.map .int)) = true ∧ gs.length ≤ 1000
def rShows (K : PySem.W.Frag) : List V → Hp → Bool → Prop := fun vs Hs b => ∃ (x m g : V) (M : Mac) (gs : List Int) (us : List Vec) (rs : List (List Stp)) (cs : List (Int × List Vec)), vs = [x, m, g] ∧ LeastAt K us rs cs x Hs ∧ MacAt K M m Hs ∧ MOk M ∧ Dp K Hs g (.tuple (gs.map .int)) ∧ okGoals M gs ∧
  TabOk M cs ∧ us.length ≤ 5000 ∧ OneLen M.kinds.length us ∧ rs.length ≤ 5000 ∧ (∀ r ∈ rs, RunOk M 0 r ∧ r.length ≤ 1000) ∧ (heldAll cs gs).length ≤ 50000 ∧ b = showsB M gs us rs cs
section
variable {P : Program} {w : World} {K : PySem.W.Frag} {mg : Str → Option Value} {base : Heap}
abbrev NSH : List Str := ["self", "machine", "goals", "vector", "run", "held", "goal", "other"]
theorem scShows : FnScope NSH ["self", "machine", "goals"] (defScope sShows) := ⟨rfl, rfl, rfl, by decide +kernel, rfl, by decide +kernel, by decide +kernel⟩
theorem ok_shows (T : G K mg) : Ok P w K mg base CX0 4 (He.ma K (He.ga K "Least") "shows") ["self", "machine", "goals"] (spB K (rShows K)) := by
  obtain ⟨fd, F⟩ := T.funM 24
  obtain ⟨fdS, GS, bS, kS⟩ := ok_states (P := P) (w := w) (base := base) T
  obtain ⟨fdL, GL, bL, kL⟩ := ok_leastOf (P := P) (w := w) (base := base) T
  obtain ⟨fdR, GR, bR, kR⟩ := ok_last (P := P) (w := w) (base := base) T
  obtain ⟨fdF, GF, bF, kF⟩ := ok_falls (P := P) (w := w) (base := base) T
  obtain ⟨fdT, GT, bT, kT⟩ := ok_isTable (P := P) (w := w) (base := base) T
  obtain ⟨fdB, GB, bB, kB⟩ := ok_within (P := P) (w := w) (base := base) T
  refine ok_of F scShows (fun vs H Q E h => ?_) (fun _ _ _ _ _ _ us hl => match us, hl with | [_, _, _], _ => rfl) fun cdv A outer s H vs Q E hr h => ?_
  · obtain ⟨_, _, _, ⟨_, _, _, _, _, _, _, _, rfl, _⟩, _⟩ := h
    rfl
  · obtain ⟨Hs, b, eH, ⟨x, m, g, M, gs, us, rs, cs, rfl, hx, hm, O, hg, hgo, hT, hul, hone, hrl, hrun, hhl, rfl⟩, kQ⟩ := h
    refine ⟨_, pss_cons (ps_expr (pe_call GS (hr.mono (by decide)) rfl (T.gl "check_states") kS bS .nil passL (pa_cons (pv 1) (pa_cons (pv 2) pa_nil))))
      (pss_cons (ps_if (PW.pt (pw_or (pt_cmpR (op_neD hr.units) (pe_fld (pv 0) rfl) (pe_call GL hr rfl (T.gl "least_of") kL bL .nil pass0 (pa_cons (pe_fld (pv 0) rfl) pa_nil)) (nomark _))
          (pw_or1 (pt_cmpR op_ne (pe_callB call_len_seq rfl (T.fr "len") (by decide +kernel) (pa_cons (pe_fld (pv 0) rfl) pa_nil)) (pe_callB call_len_seq rfl (T.fr "len") (by decide +kernel) (pa_cons (pe_fld (pv 0) rfl) pa_nil)) (nomark _))))) (pss_one (ps_ret pe_bl)) pss_nil)
      (pss_cons (ps_try_thru0 (pss_one (ps_for PassesOwn.never rfl (pi_zipM rfl (T.fr "zip") (pa_cons (pe_fld (pv 0) rfl) (pa_cons (pe_fld (pv 0) rfl) pa_nil))) (pg_tup rfl (pgs_cons (pg_name (i := 3) scShows.nd rfl (Or.inl rfl)) (pgs_cons (pg_name (i := 4) scShows.nd rfl (Or.inl rfl)) pgs_nil)))
          (pss_one (ps_if (PW.pt (pw_or (pt_cmpR op_notIn_seq (pe_call GR (hr.mono (by decide)) rfl (T.gl "last_state") kR bR .nil pass0 (pa_cons (pv 1) (pa_cons (pv 4) pa_nil))) (pv 2) rfl)
            (pw_or1 (pt_cmpR (op_neD hr.units) (pe_call GF (hr.mono (by decide)) rfl (T.gl "falls_of") kF bF .nil pass0 (pa_cons (pv 1) (pa_cons (pv 4) pa_nil))) (pv 3) (nomark _))))) (pss_one (ps_ret pe_bl)) pss_nil)))))
      (pss_cons (ps_if (pt_not (pt_val (pe_call GT hr rfl (T.gl "is_table") kT bT .nil pass0 (pa_cons (pv 1) (pa_cons (pe_fld (pv 0) rfl) (pa_cons (pe_op op_rep (pe_lst (pa_cons pe_non pa_nil)) (pe_callB call_len_seq rfl (T.fr "len") (by decide +kernel) (pa_cons (pe_fld (pv 1) rfl) pa_nil))) pa_nil)))))) (pss_one (ps_ret pe_bl)) pss_nil)
      (pss_cons (ps_setLc2 (i := 5) (own := [("goal", 6), ("vector", 3)]) (vs1 := [3]) (g := gName 6) (g1 := gName 3) (tt := tYes) (tt1 := tYes) (te := tVar 3) (wi1 := iList K (tDGet2 (tFld K (tVar 0) "costs") (tVar 6) (tLst tNil))) rfl scShows.nd rfl rfl rfl (pi_tup (pv 2)) (blkOk_by (N := NSH) (sc := defScope sShows) (by decide +kernel)) (by decide)
          (fun _ _ _ _ _ => pg_name (i := 6) scShows.nd rfl (Or.inl rfl)) (fun _ _ _ _ _ => pts_nil) (fun _ _ _ _ _ => pi_list (pe_dget2 (room_1 hr) (pe_fld (pv 0) rfl) (pv 6) (pe_lst pa_nil) ⟨rfl, rfl, rfl, rfl⟩))
          (fun _ _ _ _ _ => pg_name (i := 3) scShows.nd rfl (Or.inl rfl)) (fun _ _ _ _ _ => pts_nil) (fun _ _ _ _ _ => pv 3))
      (pss_one (ps_ret (pe_callB (cr_all rfl) rfl (T.fr "all") (by decide +kernel) (pa_cons (pe_lc (own := [("other", 7)]) (g := gName 7) (tt := tYes) (te := tCB (rAny K) (tCons (tLc (iList K (tFld K (tVar 0) "vectors")) (gName 3) tYes (tCall (spBelow K) [] E0 (tCons (tVar 3) (tCons (tVar 7) tNil))) [3]) tNil)) rfl scShows.nd (pi_list (pv 5)) (blkOk_by (N := NSH) (sc := defScope sShows) (by decide +kernel))
          (fun _ _ _ _ _ => pg_name (i := 7) scShows.nd rfl (Or.inr rfl)) (fun _ _ _ _ _ => pts_nil)
          (fun _ _ _ _ _ => pe_callB (cr_any rfl) rfl (T.fr "any") (by decide +kernel) (pa_cons (pe_lc (own := [("vector", 3)]) (g := gName 3) (tt := tYes) (te := tCall (spBelow K) [] E0 (tCons (tVar 3) (tCons (tVar 7) tNil))) rfl scShows.nd (pi_list (pe_fld (pv 0) rfl)) (blkOk_by (by rfl))
            (fun _ _ _ _ _ => pg_name (i := 3) scShows.nd rfl (Or.inl rfl)) (fun _ _ _ _ _ => pts_nil) (fun _ _ _ _ _ => pe_call GB (hr.mono (by decide)) rfl (T.gl "is_within") kB bB .nil pass0 (pa_cons (pv 3) (pa_cons (pv 7) pa_nil)))) pa_nil))) pa_nil)))))))), ?_⟩
    have few := O.few
    have ul : ∀ u ∈ us, u.length ≤ 1000 := fun u hu => by rw [hone u hu]; omega
    refine ⟨m, rfl, g, rfl, Hs, m, g, M, .tuple (gs.map .int), rfl, eH, hm, hg, fun ds e => by injection e with e; rw [← e, List.length_map]; exact hgo.2, fun _ H1 e1 => ?_, fun hb => absurd hb (by rw [hgo.1]; decide)⟩
    have x0 : ∀ {σ : L2.St} {H0 : Hp}, Ex Hs H0 → σ[0]? = some (some x) → EvP (tVar 0) σ H0 (LeastAt K us rs cs) := fun {σ H0} e hs => evp_of (ev_var hs) fun _ e' => hx.ex (e.trans e')
    have m0 : ∀ {σ : L2.St} {H0 : Hp}, Ex Hs H0 → σ[1]? = some (some m) → EvP (tVar 1) σ H0 (MacAt K M) := fun {σ H0} e hs => evp_of (ev_var hs) fun _ e' => hm.ex (e.trans e')
    have g0 : ∀ {σ : L2.St} {H0 : Hp}, Ex Hs H0 → σ[2]? = some (some g) → EvD K (tVar 2) σ H0 (.tuple (gs.map .int)) := fun {σ H0} e hs => evd_var hs (dp_ex e hg)
    have t1 := et_or (et_test (ev_neVs (K := K) (evd_lvecs T (x0 (σ := start NSH [x, m, g]) (Ex.refl _) rfl)) (evd_call (E := E0) (ds := [.list (us.map dV)]) (R := rLeastOf K) (d := .list ((leastOf us).map dV)) (ead_cons (evd_lvecs T (x0 (σ := start NSH [x, m, g]) (Ex.refl _) rfl)) ead_nil) fun vs Hs' _ hvs => by
      obtain ⟨y, rfl, hy⟩ := dps1 hvs
      exact ⟨y, us, M.kinds.length, rfl, hy, hone, by omega, by omega, rfl⟩))) fun _ => et_test (ev_neI (ev_lenD (t := false) (evd_lruns T (x0 (σ := start NSH [x, m, g]) (Ex.refl _) rfl))) (ev_lenD (t := false) (evd_lvecs T (x0 (σ := start NSH [x, m, g]) (Ex.refl _) rfl))))
    rw [List.length_map, List.length_map] at t1
    have el : decide ((rs.length : Int) ≠ (us.length : Int)) = decide (rs.length ≠ us.length) := by
      by_cases q : rs.length = us.length
      · simp [q]
      · have : ¬ (rs.length : Int) = us.length := by omega
        simp [q, this]
    rw [el] at t1
    have fw1 := fw_skip eH e1
    have no : ∀ (H' : Hp), Ex H H' → showsB M gs us rs cs = false → tRet (tC (.bl false)) { nx := fun _ H' => Q .non H', rt := Q } (start NSH [x, m, g]) H' := fun H' e hb => by
      have := kQ H' e
      rw [hb] at this
      exact this
    refine y_if t1 fw1.c (fun hb H2 e2 => ?_) fun hb H2 e2 => ?_
    · exact no H2 (e1.trans e2) (by unfold showsB; rw [hb]; rfl)
    · refine y_next ?_
      dsimp only
      have e12 : Ex H H2 := e1.trans e2
      have eH2 := eH.trans e12
      refine y_for (wk_zipA us rs dV dRun (p := false) (q := false) (j := 3) (k := 4) (ead_cons (evd_lvecs T (x0 (σ := start NSH [x, m, g]) (Ex.refl _) rfl)) (ead_cons (evd_lruns T (x0 (σ := start NSH [x, m, g]) (Ex.refl _) rfl)) ead_nil))) eH2
        (fun i σ' Hs' H' => Ex Hs Hs' ∧ Ex H H' ∧ (∀ p ∈ (us.zip rs).take i, (!decide (endOf 0 p.2 ∈ gs) || decide (fallsOf M.kinds p.2 ≠ p.1)) = false) ∧ ∃ a b, σ' = [some x, some m, some g, a, b, none, none, none])
        (fun Hs3 H3 f3 => ⟨f3.b, e12.trans f3.a, fun p hp => absurd hp (by simp), none, none, rfl⟩) (fun i σ' Hs' H' hi f iv σ4 Hs4 H4 f4 hS N hN => ?_) fun σ' Hs' H' f iv => ?_
      · obtain ⟨ex, eh, hdone, a, b, rfl⟩ := iv
        obtain ⟨u, u', ⟨v, r, hvr, p1, p2⟩, rfl⟩ := hS
        have hmem := List.mem_of_getElem? hvr
        have hr := List.of_mem_zip hmem
        obtain ⟨hrok, hrz⟩ := hrun r hr.2
        have ex4 := ex.trans f4.b
        have rv : ∀ {H0 : Hp}, Ex Hs4 H0 → EvD K (tVar 4) [some x, some m, some g, some u, some u', none, none, none] H0 (.list (r.map dStp)) := fun {H0} e => evd_var (v := u') rfl (dp_ex e p2)
        have t2 := et_or (et_test (ev_inTI (K := K) (neg := true) (ev_int (evd_call1' (K := K) (E := E0) (R := rLast K) (d := .int (endOf 0 r)) (eap2 (m0 (σ := [some x, some m, some g, some u, some u', none, none, none]) ex4 rfl) (fun _ _ _ e h => MacAt.ex e h) (rv (Ex.refl _))) fun vs Hs' h => by
            obtain ⟨y, z, rfl, h1, h2⟩ := h
            exact ⟨y, z, M, r, rfl, h1, h2, hrok, hrz, rfl⟩)) (g0 ex4 rfl))) fun _ => et_test (ev_neV (K := K) (evd_call1' (K := K) (E := E0) (R := rFalls K) (d := dV (fallsOf M.kinds r)) (eap2 (m0 (σ := [some x, some m, some g, some u, some u', none, none, none]) ex4 rfl) (fun _ _ _ e h => MacAt.ex e h) (rv (Ex.refl _))) fun vs Hs' h => by
            obtain ⟨y, z, rfl, h1, h2⟩ := h
            exact ⟨y, z, M, r, rfl, h1, h2, hrok, hrz, by omega, rfl⟩) (evd_var (i := 3) (v := u) rfl p1))
        refine y_if t2 f4.c (fun hb H5 e5 => ?_) fun hb H5 e5 => ?_
        · refine y_ret (evd_c (K := K) (.bl false)) (f4.c.trans e5) fun v' Hs6 H6 f6 hv' => ?_
          rw [dp_bl hv']
          have e : showsB M gs us rs cs = false := by
            unfold showsB
            have : ((us.zip rs).all fun p => !(!decide (endOf 0 p.2 ∈ gs) || decide (fallsOf M.kinds p.2 ≠ p.1))) = false := by
              rw [List.all_eq_false]
              refine ⟨(v, r), hmem, ?_⟩
              show ¬ (!(!decide (endOf 0 r ∈ gs) || decide (fallsOf M.kinds r ≠ v))) = true
              have hb' : (!decide (endOf 0 r ∈ gs) || decide (fallsOf M.kinds r ≠ v)) = true := hb
              rw [hb']
              decide
            rw [this, Bool.and_false, Bool.false_and, Bool.false_and]
          rw [← e]
          exact kQ _ (eh.trans (f4.a.trans (e5.trans f6.a)))
        · refine hN _ Hs4 H5 (f4.trans (fw_skip f4.c e5)).m ⟨ex4, eh.trans (f4.a.trans e5), fun p hp => ?_, some u, some u', rfl⟩
          rw [List.take_add_one, hvr] at hp
          rcases List.mem_append.mp hp with z | z
          · exact hdone p z
          · have z' : p = (v, r) := by simpa using z
            rw [z']
            exact hb
      · obtain ⟨ex, eh, hdone, a, b, rfl⟩ := iv
        have hruns : ((us.zip rs).all fun p => !(!decide (endOf 0 p.2 ∈ gs) || decide (fallsOf M.kinds p.2 ≠ p.1))) = true := List.all_eq_true.mpr fun p hp => by
          have h := hdone p (by rw [List.take_length]; exact hp)
          rw [h]
          rfl
        have hfirst : (decide (us ≠ leastOf us) || decide (rs.length ≠ us.length)) = false := hb
        have eS : showsB M gs us rs cs = (isTab M cs (noLim M) && (heldAll cs gs).all fun o => us.any fun v => below v o) := by
          unfold showsB
          rw [hfirst, hruns]
          rfl
        rw [eS] at kQ
        dsimp only
        have eH' := f.c
        have ex' : Ex Hs Hs' := ex
        have t3 := et_not (et_B (evb_call1' (K := K) (E := E0) (R := rIsTable K) (b := isTab M cs (noLim M)) (eap3 (m0 (σ := [some x, some m, some g, a, b, none, none, none]) ex' rfl) (fun _ _ _ e h => MacAt.ex e h) (evp_lcosts T (x0 (σ := [some x, some m, some g, a, b, none, none, none]) ex' rfl)) (fun _ _ _ e h => DictX.ex e h) (evd_repN (ev_klen T (m0 (σ := [some x, some m, some g, a, b, none, none, none]) ex' rfl)) (by omega))) fun vs Hs2 h => by
          obtain ⟨y, z, l, rfl, h1, h2, h3⟩ := h
          exact ⟨y, z, l, M, cs, false, noLim M, rfl, h1, O, h2, h3, hT, rfl⟩))
        refine y_if t3 eH' (fun hb3 H3 e3 => ?_) fun hb3 H3 e3 => ?_
        · refine y_ret (evd_c (K := K) (.bl false)) (eH'.trans e3) fun v' Hs6 H6 f6 hv' => ?_
          rw [dp_bl hv']
          have e : isTab M cs (noLim M) = false := by simpa using hb3
          rw [e, Bool.false_and] at kQ
          exact kQ _ (eh.trans (e3.trans f6.a))
        · have e : isTab M cs (noLim M) = true := by simpa using hb3
          rw [e, Bool.true_and] at kQ
          refine y_next ?_
          dsimp only
          refine y_asg (evd_heldAll (K := K) (j := 6) (k := 3) (σ := [some x, some m, some g, a, b, none, none, none]) (cs := cs) (gs := gs) (g0 ex' rfl) (fun u H' e => evp_at (evp_lcosts T (x0 (ex'.trans e) rfl))) hhl hgo.2 (fun _ => rfl) (fun _ _ => rfl) (fun _ => rfl) (fun _ _ => rfl)) (eH'.trans e3) fun hv Hs4 H4 f4 hhv => ?_
          dsimp only
          have ex4 := ex'.trans f4.b
          have key := evd_lcM (K := K) (σ := [some x, some m, some g, a, b, some hv, none, none]) (vs := [7]) (te := tCB (rAny K) (tCons (tLc (iList K (tFld K (tVar 0) "vectors")) (gName 3) tYes (tCall (spBelow K) [] E0 (tCons (tVar 3) (tCons (tVar 7) tNil))) [3]) tNil)) (heldAll cs gs) (fun o => PyData.bool (us.any fun v => below v o)) (wk_listA (heldAll cs gs) dV (j := 7) (evd_var (i := 5) (v := hv) rfl hhv)) (by omega) fun i o σ2 H' hi e hS => by
            obtain ⟨u', ⟨a1, e1, p1⟩, rfl⟩ := hS
            rw [hi] at e1
            cases e1
            exact ⟨rfl, evd_bl (ev_anyBelow (K := K) (j := 3) (tl := tFld K (tVar 0) "vectors") (tw := tVar 7) (l := us) (wv := o) (evd_lvecs T (x0 (ex4.trans e) rfl)) (by omega) ul (fun u H'' e' => evd_var (i := 7) rfl (dp_ex e' p1)) (fun _ => rfl) (fun _ => rfl))⟩
          have em : (heldAll cs gs).map (fun o => PyData.bool (us.any fun v => below v o)) = ((heldAll cs gs).map fun o => us.any fun v => below v o).map PyData.bool := by rw [List.map_map]; rfl
          rw [em] at key
          have fin := ev_all key
          rw [List.all_map] at fin
          exact fin H4 f4.c _ fun H5 e5 => kQ H5 (eh.trans (e3.trans (f4.a.trans e5)))
end
end K02
set_option Elab.async false
set_option linter.all false
set_option maxRecDepth 100000
set_option maxHeartbeats 1000000
/-! ### least_falls -/
namespace K02
open PySem PySem.Spec PyProof.Rows L2 Evl
theorem first_at {α : Type} (p : α → Prop) [DecidablePred p] : ∀ l : List α, (∃ x ∈ l, p x) → ∃ (i : Nat) (x : α), l[i]? = some x ∧ p x ∧ ∀ j y, j < i → l[j]? = some y → ¬ p y
  | [], h => by obtain ⟨x, hx, _⟩ := h; cases hx
  | a :: l, h => by
    by_cases q : p a
    · exact ⟨0, a, rfl, q, fun j y hj => absurd hj (by omega)⟩
    · obtain ⟨x, hx, hp⟩ := h
      rcases List.mem_cons.mp hx with e | hx
      · exact absurd (e ▸ hp) q
      · obtain ⟨i, y, h1, h2, h3⟩ := first_at p l ⟨x, hx, hp⟩
        refine ⟨i + 1, y, by simpa using h1, h2, fun j z hj hz => ?_⟩
        cases j with
        | zero =>
          simp at hz
          subst hz
          exact q
        | succ j => exact h3 j z (by omega) (by simpa using hz)
/-- a run for each that is held -/
structure RunTo (M : Mac) (W : WS) (gs : List Int) (v : Vec) (i : Nat) (s : Int) (rr : List Stp) : Prop where
  at_ : gs[i]? = some s
  held : v ∈ W.held s
  first : ∀ j s', j < i → gs[j]? = some s' → v ∉ W.held s'
  chain : ChainOf W.orig s v rr
  run : RunOk M 0 rr.reverse
  fin : endOf 0 rr.reverse = s
  falls : fallsOf M.kinds rr.reverse = v
  short : rr.length ≤ 1000
theorem run_exists {M : Mac} (O : MOk M) {lims : List (Option Int)} {W : WS} (D : WDone M lims W) {gs : List Int} {v : Vec} (h : v ∈ heldAll W.costs gs) : ∃ i s rr, RunTo M W gs v i s rr := by
  obtain ⟨g, hg, hv⟩ := List.mem_flatMap.mp h
  obtain ⟨i, s, h1, h2, h3⟩ := first_at (fun g => v ∈ W.held g) gs ⟨g, hg, hv⟩
  obtain ⟨r, c⟩ := D.inv.came s v (D.inv.hr s v h2)
  have hl := states_few c
  have := O.small
  exact ⟨i, s, r.reverse, h1, h2, h3, c.chain, by rw [List.reverse_reverse]; exact c.run, by rw [List.reverse_reverse]; exact c.fin, by rw [List.reverse_reverse]; exact c.falls, by rw [List.length_reverse]; omega⟩
open Classical in
noncomputable def pickRun (M : Mac) (W : WS) (gs : List Int) (v : Vec) : List Stp := if h : ∃ rr i s, RunTo M W gs v i s rr then (choose h).reverse else []
theorem pickRun_ok {M : Mac} {W : WS} {gs : List Int} {v : Vec} (h : ∃ i s rr, RunTo M W gs v i s rr) : ∃ i s rr, RunTo M W gs v i s rr ∧ pickRun M W gs v = rr.reverse := by
  obtain ⟨i, s, rr, hr⟩ := h
  have h' : ∃ rr i s, RunTo M W gs v i s rr := ⟨rr, i, s, hr⟩
  obtain ⟨i', s', q⟩ := Classical.choose_spec h'
  exact ⟨i', s', _, q, by unfold pickRun; rw [dif_pos h']⟩
def rLeastI (K : PySem.W.Frag) : List V → Hp → (List (Str × V) → Hp → Prop) → Prop := fun rest Hs Fin => ∃ (v r c : V) (tv tr : Bool) (vs : List Vec) (rs : List (List Stp)) (cs : List (Int × List Vec)), rest = [v, r, c] ∧ Dp K Hs v (dSeq tv (vs.map dV)) ∧ Dp K Hs r (dSeq tr (rs.map dRun)) ∧ DictX K (costsD cs) c Hs ∧ (cs.map (·.1)).Nodup ∧ vs.length ≤ 5000 ∧ rs.length ≤ 5000 ∧ cs.length ≤ 1000 ∧
  (∀ e ∈ cs, e.2.length ≤ 1000) ∧ (∀ r ∈ rs, r.length ≤ 1000) ∧ ∀ fs H2, (∃ c v r, fs = lFs c v r ∧ DictX K (costsD cs) c H2 ∧ Dp K H2 v (.list (vs.map dV)) ∧ Dp K H2 r (.list (rs.map dRun))) → Fin fs H2
abbrev OkLI (P : Program) (w : World) (K : PySem.W.Frag) (mg : Str → Option Value) (base : Heap) : Prop := Ok P w K mg base CX0 3 (He.ma K (He.ga K "Least") "__init__") ["self", "vectors", "runs", "costs"] (spInit (He.ga K "Least") (rLeastI K))
section
variable {P : Program} {w : World} {K : PySem.W.Frag} {mg : Str → Option Value} {base : Heap}
/-- Least(..) -/
theorem evp_least {σ : L2.St} {H : Hp} {ta tb tc : TE} {E : XK} {tv tr : Bool} {vs : List Vec} {rs : List (List Stp)} {cs : List (Int × List Vec)} (h1 : EvD K ta σ H (dSeq tv (vs.map dV))) (h2 : EvD K tb σ H (dSeq tr (rs.map dRun))) (h3 : EvP tc σ H (DictX K (costsD cs)))
    (hn : (cs.map (·.1)).Nodup) (l1 : vs.length ≤ 5000) (l2 : rs.length ≤ 5000) (l3 : cs.length ≤ 1000) (l4 : ∀ e ∈ cs, e.2.length ≤ 1000) (l5 : ∀ r ∈ rs, r.length ≤ 1000) : EvP (tMake (He.ga K "Least") (spInit (He.ga K "Least") (rLeastI K)) [] E (tCons ta (tCons tb (tCons tc tNil)))) σ H (LeastAt K vs rs cs) :=
  (evp_make (R := rLeastI K) (RA := fun ws H2 => ∃ x y z, ws = [x, y, z] ∧ Dp K H2 x (dSeq tv (vs.map dV)) ∧ Dp K H2 y (dSeq tr (rs.map dRun)) ∧ DictX K (costsD cs) z H2) (Fin := fun fs H2 => ∃ c v r, fs = lFs c v r ∧ DictX K (costsD cs) c H2 ∧ Dp K H2 v (.list (vs.map dV)) ∧ Dp K H2 r (.list (rs.map dRun)))
    (eap3 h1 (fun _ _ _ => dp_mono _ _ _) h2 (fun _ _ _ => dp_mono _ _ _) h3) (fun ws Hs Hs' _ e h => by
      obtain ⟨x, y, z, rfl, p1, p2, p3⟩ := h
      exact ⟨x, y, z, tv, tr, vs, rs, cs, rfl, dp_ex e p1, dp_ex e p2, p3.ex e, hn, l1, l2, l3, l4, l5, fun fs H2 h => h⟩) (fun fs H1 H2 e h => by
      obtain ⟨c, v, r, q1, q2, q3, q4⟩ := h
      exact ⟨c, v, r, q1, q2.ex e, dp_ex e q3, dp_ex e q4⟩)).imp fun v H2 _ h => by
      obtain ⟨a, dx, fs, q1, q2, c, v, r, rfl, q4, q5, q6⟩ := h
      exact ⟨a, dx, c, v, r, q1, q2, q4, q5, q6⟩
/-- Ways(machine, limits) -/
theorem evp_newWays {σ : L2.St} {H : Hp} {ta tb : TE} {E : XK} {M : Mac} {t : Bool} {lims : List (Option Int)} (O : MOk M) (h1 : EvP ta σ H (MacAt K M)) (h2 : EvD K tb σ H (dSeq t (lims.map dO))) : EvP (tMake (He.ga K "Ways") (spInit (He.ga K "Ways") (rWays K P w)) [] E (tCons ta (tCons tb tNil))) σ H (fun v H2 => ∃ W, WDone M lims W ∧ WaysIs K P w M W v H2) :=
  (evp_make (R := rWays K P w) (RA := fun ws H2 => ∃ x y, ws = [x, y] ∧ MacAt K M x H2 ∧ Dp K H2 y (dSeq t (lims.map dO))) (Fin := fun fs H2 => WFinD K P w M t lims fs H2)
    (eap2 h1 (fun _ _ _ e h => MacAt.ex e h) h2) (fun ws Hs Hs' _ e h => by
      obtain ⟨x, y, rfl, p1, p2⟩ := h
      exact ⟨x, y, M, t, lims, rfl, p1.ex e, O, dp_ex e p2, fun fs H2 h => h⟩) (fun fs H1 H2 e h => by
      obtain ⟨W, m, l, a, c, o, r, q1, q2, q3, q4, q5, ⟨kvs, q6, q7⟩, xs, q8, q9, q10⟩ := h
      exact ⟨W, m, l, a, c, o, r, q1, q2, q3.ex e, dp_ex e q4, q5.ex e, ⟨kvs, e _ _ q6, entD_ex e q7⟩, xs, e _ _ q8, q9.ex e, orD_ex e q10⟩)).imp fun v H2 _ h => by
      obtain ⟨x, dx, fs, p1, p2, W, m, l, a, c, o, r, q1, rfl, q3, q4, q5, q6, q7⟩ := h
      exact ⟨W, q1, x, dx, m, l, a, c, o, r, p1, p2, q3, q6, q7⟩
/-- o.m(..) of a Ways, a Least: what the promise gives -/
theorem evp_meth {σ : L2.St} {H : Hp} {to : TE} {ta : TA} {C : Addr} {m : Str} {sp : Sp} {E : XK} {PO : V → Hp → Prop} {A : List V → Hp → Prop} {R : V → Hp → Prop} (ho : EvP to σ H PO) (mo : ∀ v H1 H2, Ex H1 H2 → PO v H1 → PO v H2) (hi : ∀ v Hs, PO v Hs → ∃ a dx fs, v = .ref a ∧ Hs a = some (.ins C dx fs) ∧ fs.lookup m = none) (ha : EvAP ta σ H A)
    (hs : ∀ v vs Hs H1, Ex Hs H1 → PO v Hs → A vs Hs → ∀ Q : VK, (∀ u Hs2 H2, Fw Hs H1 Hs2 H2 → R u Hs2 → Q u H2) → sp (v :: vs) H1 Q E) : EvP (tMeth C m sp [] E to ta) σ H R := fun Hs H1 a b Q q =>
  ho Hs H1 a b _ fun v Hs2 H2 f p => by
    obtain ⟨ad, dx, fs, rfl, h1, h2⟩ := hi v Hs2 p
    exact ⟨ad, dx, fs, rfl, f.c _ _ h1, h2, ha Hs2 H2 (a.trans f.b) f.c _ fun vs Hs3 H3 f3 p3 => by
      rw [List.append_nil]
      exact hs _ vs Hs3 H3 f3.c (mo _ _ _ f3.b p) p3 Q fun u Hs4 H4 f4 r => q u Hs4 H4 ((f.trans f3).trans f4) r⟩
theorem waysIs_ins {M : Mac} {W : WS} {v : V} {Hs : Hp} (h : WaysIs K P w M W v Hs) : ∃ a dx m l aa c o r, v = .ref a ∧ Hs a = some (.ins (He.ga K "Ways") dx (wFs m l aa c o r)) := by
  obtain ⟨x, dx, m, l, a, c, o, r, h1, h2, _⟩ := h
  exact ⟨x, dx, m, l, a, c, o, r, h1, h2⟩
theorem inv_entry {M : Mac} {lims : List (Option Int)} {W : WS} {done : Nat} (I : WInv M lims W done) {e : Int × List Vec} (h : e ∈ W.costs) : W.held e.1 = e.2 := by
  unfold WS.held heldC
  rw [getA_of_mem I.nd (k := e.1) (b := e.2) h]
  rfl
theorem inv_vecs {M : Mac} (O : MOk M) {lims : List (Option Int)} {W : WS} {done : Nat} (I : WInv M lims W done) {e : Int × List Vec} (h : e ∈ W.costs) : VecsOk M.kinds.length e.2 ∧ e.2.length ≤ 1000 := by
  rw [← inv_entry I h]
  refine ⟨⟨fun v hv => I.hlen _ v hv, fun hn => ?_⟩, Nat.le_trans (I.hle O e.1) (by decide)⟩
  have hnd := I.hnd e.1
  have hl := I.hlen e.1
  cases q : W.held e.1 with
  | nil => simp
  | cons a l =>
    cases l with
    | nil => simp
    | cons b l =>
      rw [q] at hnd hl
      have e1 : a = [] := List.length_eq_zero_iff.mp ((hl a (by simp)).trans hn)
      have e2 : b = [] := List.length_eq_zero_iff.mp ((hl b (by simp)).trans hn)
      rw [e1, e2] at hnd
      simp at hnd
theorem heldAll_len {M : Mac} (O : MOk M) {lims : List (Option Int)} {W : WS} {done : Nat} (I : WInv M lims W done) (gs : List Int) : (heldAll W.costs gs).length ≤ 256 * gs.length := by
  unfold heldAll
  induction gs with
  | nil => simp
  | cons g gs ih =>
    rw [List.flatMap_cons, List.length_append, List.length_cons]
    have := I.hle O g
    have h2 : (heldC W.costs g).length ≤ 256 := this
    omega
theorem heldAll_one {M : Mac} {lims : List (Option Int)} {W : WS} {done : Nat} (I : WInv M lims W done) (gs : List Int) : OneLen M.kinds.length (heldAll W.costs gs) := fun v hv => by
  obtain ⟨g, _, h⟩ := List.mem_flatMap.mp hv
  exact I.hlen g v h
theorem leastOf_mem {vs : List Vec} {v : Vec} (h : v ∈ leastOf vs) : v ∈ vs := (told_mem vs v).mp (List.mem_filter.mp h).1
theorem leastOf_len (vs : List Vec) : (leastOf vs).length ≤ vs.length := Nat.le_trans (List.length_filter_le _ _) (told_len vs)
theorem tableL_nodup {cs : List (Int × List Vec)} (h : (cs.map (·.1)).Nodup) : ((tableL cs).map (·.1)).Nodup := by
  unfold tableL
  rw [List.map_map]
  have h1 : ((sortC cs).map (·.1)).Nodup := ((sortC_perm cs).map _).nodup_iff.mpr h
  exact h1.sublist (List.filter_sublist.map _)
theorem tableL_len (cs : List (Int × List Vec)) : (tableL cs).length ≤ cs.length := by
  unfold tableL
  rw [List.length_map, ← (sortC_perm cs).length_eq]
  exact List.length_filter_le _ _
theorem tableL_mem {cs : List (Int × List Vec)} {e : Int × List Vec} (h : e ∈ tableL cs) : ∃ l, (e.1, l) ∈ cs ∧ l ≠ [] ∧ e.2 = l.mergeSort vle := by
  unfold tableL at h
  obtain ⟨e0, h0, rfl⟩ := List.mem_map.mp h
  obtain ⟨h1, h2⟩ := List.mem_filter.mp h0
  exact ⟨e0.2, (sortC_perm cs).mem_iff.mp h1, by simpa using h2, rfl⟩
theorem okStates_ints {many : Nat} {d : PyData} (h : okStates many d = true) : ∃ gs : List Int, d = .tuple (gs.map .int) := by
  cases d with
  | tuple ds =>
    have h1 : (ds.all (numIn many) && _) = true := h
    have h2 := (Bool.and_eq_true_iff.mp h1).1
    clear h h1
    induction ds with
    | nil => exact ⟨[], rfl⟩
    | cons a l ih =>
      simp only [List.all_cons, Bool.and_eq_true] at h2
      obtain ⟨ns, e⟩ := ih h2.2
      injection e with e
      cases a with
      | int n => exact ⟨n :: ns, by rw [e]; rfl⟩
      | _ => exact absurd h2.1 (by simp [numIn])
  | _ => cases h
/-- what is found -/
structure Found (M : Mac) (gs : List Int) (W : WS) : Prop where
  done : WDone M (noLim M) W
def LFvecs (W : WS) (gs : List Int) : List Vec := leastOf (heldAll W.costs gs)
noncomputable def LFruns (M : Mac) (W : WS) (gs : List Int) : List (List Stp) := (LFvecs W gs).map (pickRun M W gs)
def spLF (K : PySem.W.Frag) : Sp := fun vs H Q E => ∃ (Hs : Hp) (m g : V) (M : Mac) (d : PyData), vs = [m, g] ∧ Ex Hs H ∧ MacAt K M m Hs ∧ MOk M ∧ Dp K Hs g d ∧ (∀ ds, d = .tuple ds → ds.length ≤ 4) ∧
  (∀ gs : List Int, d = .tuple (gs.map .int) → okStates M.many d = true → ∀ W v Hs2 H2, WDone M (noLim M) W → Fw Hs H Hs2 H2 → LeastAt K (LFvecs W gs) (LFruns M W gs) (tableL W.costs) v Hs2 → Q v H2) ∧ (okStates M.many d = false → ∀ H2, Ex H H2 → E (.ref (He.ga K "BadStates")) none H2)
abbrev NLF : List Str := ["machine", "goals", "ways", "vectors", "vector"]
theorem scLF : FnScope NLF ["machine", "goals"] (defScope sLeastFalls) := ⟨rfl, rfl, rfl, by decide +kernel, rfl, by decide +kernel, by decide +kernel⟩
theorem ok_leastFalls (T : G K mg) (LI : OkLI P w K mg base) : Ok P w K mg base (L2.CX P w) 6 (He.ga K "least_falls") ["machine", "goals"] (spLF K) := by
  obtain ⟨fd, F⟩ := T.fun0 25
  obtain ⟨fdS, GS, bS, kS⟩ := ok_states (P := P) (w := w) (base := base) T
  obtain ⟨fdW, GW, bW, kW⟩ := ok_waysI (P := P) (w := w) (base := base) T
  obtain ⟨fdL, GL, bL, kL⟩ := ok_wLeast (P := P) (w := w) (base := base) T
  obtain ⟨fdR, GR, bR, kR⟩ := ok_runTo (P := P) (w := w) (base := base) T
  obtain ⟨fdT, GT, bT, kT⟩ := ok_table (P := P) (w := w) (base := base) T
  obtain ⟨fdI, GI, bI, kI⟩ := LI
  refine ok_ofX F scLF (fun vs H Q E h => ?_) (fun _ _ _ _ _ _ us hl => match us, hl with | [_, _], _ => rfl) fun cdv A outer s H vs Q E hr h => ?_
  · obtain ⟨_, _, _, _, _, rfl, _⟩ := h
    rfl
  · obtain ⟨Hs, m, g, M, d, rfl, eH, hm, O, hg, hz, kQ, kE⟩ := h
    refine ⟨_, pss_cons (ps_expr (pe_call GS (hr.mono (by decide)) rfl (T.gl "check_states") kS bS .nil (passes_call (E := E) (takes_of rfl rfl rfl rfl) fun _ _ _ _ h => h) (pa_cons (pv 0) (pa_cons (pv 1) pa_nil))))
      (pss_cons (ps_set (i := 2) scLF.nd rfl (Or.inr rfl) (pe_make (T.make "Ways") GW hr rfl (T.gl "Ways") bW .nil pass0 (pa_cons (pv 0) (pa_cons (pe_op op_rep (pe_lst (pa_cons pe_non pa_nil)) (pe_callB call_len_seq rfl (T.fr "len") (by decide +kernel) (pa_cons (pe_fld (pv 0) rfl) pa_nil))) pa_nil))))
      (pss_cons (ps_set (i := 3) scLF.nd rfl (Or.inl rfl) (pe_meth (pv 2) (T.cl "Ways") (T.me "Ways" "least") GL (hr.mono (by decide)) bL .nil pass0 (pa_cons (pv 1) pa_nil)))
      (pss_one (ps_ret (pe_make (T.make "Least") GI (hr.mono (by decide)) rfl (T.gl "Least") bI .nil pass0 (pa_cons (pv 3) (pa_cons
          (pe_lc (own := [("vector", 4)]) (g := gName 4) (tt := tYes) (te := tMeth (He.ga K "Ways") "run_to" (spD K (rRunTo K P w)) [] E0 (tVar 2) (tCons (tVar 1) (tCons (tVar 4) tNil))) rfl scLF.nd (pi_list (pv 3)) (blkOk_by (N := NLF) (sc := defScope sLeastFalls) (by decide +kernel))
            (fun _ _ _ _ _ => pg_name (i := 4) scLF.nd rfl (Or.inl rfl)) (fun _ _ _ _ _ => pts_nil) (fun _ _ _ _ _ => pe_meth (pv 2) (T.cl "Ways") (T.me "Ways" "run_to") GR (hr.mono (by decide)) bR .nil pass0 (pa_cons (pv 1) (pa_cons (pv 4) pa_nil))))
          (pa_cons (pe_meth0 (pv 2) (T.cl "Ways") (T.me "Ways" "table") GT (hr.mono (by decide)) bT .nil pass0) pa_nil)))))))), ?_⟩
    have few := O.few
    refine ⟨m, rfl, g, rfl, Hs, m, g, M, d, rfl, eH, hm, hg, fun ds e => Nat.le_trans (hz ds e) (by decide), fun hok H1 e1 => ?_, fun hb H2 e2 => kE hb H2 e2⟩
    obtain ⟨gs, rfl⟩ := okStates_ints hok
    have gl : gs.length ≤ 4 := by have := hz _ rfl; rw [List.length_map] at this; exact this
    have fw1 := fw_skip eH e1
    dsimp only
    have m0 : ∀ {σ : L2.St} {H0 : Hp}, Ex Hs H0 → σ[0]? = some (some m) → EvP (tVar 0) σ H0 (MacAt K M) := fun {σ H0} e hs => evp_of (ev_var hs) fun _ e' => hm.ex (e.trans e')
    refine y_asg (evp_newWays (P := P) (w := w) (lims := noLim M) (t := false) O (m0 (σ := start NLF [m, g]) (Ex.refl _) rfl) (evd_repN (ev_klen T (m0 (σ := start NLF [m, g]) (Ex.refl _) rfl)) (by omega))) fw1.c fun wv Hs2 H2 f2 hw => ?_
    obtain ⟨W, D, hW⟩ := hw
    dsimp only
    have w0 : ∀ {σ : L2.St} {H0 : Hp}, Ex Hs2 H0 → σ[2]? = some (some wv) → EvP (tVar 2) σ H0 (WaysIs K P w M W) := fun {σ H0} e hs => evp_of (ev_var hs) fun _ e' => hW.ex (e.trans e')
    have g0 : ∀ {σ : L2.St} {H0 : Hp}, Ex Hs2 H0 → σ[1]? = some (some g) → EvD K (tVar 1) σ H0 (.tuple (gs.map .int)) := fun {σ H0} e hs => evd_var hs (dp_ex (f2.b.trans e) hg)
    have hal := heldAll_len O D.inv gs
    have lvl : (LFvecs W gs).length ≤ 1024 := Nat.le_trans (leastOf_len _) (by omega)
    refine y_asg (evp_meth (PO := WaysIs K P w M W) (R := fun u H2 => Dp K H2 u (.list ((LFvecs W gs).map dV))) (w0 (σ := (start NLF [m, g]).set 2 (some wv)) (Ex.refl _) rfl) (fun _ _ _ e h => WaysIs.ex e h) (fun v Hs h => by
        obtain ⟨a, dx, _, _, _, _, _, _, e1, e2⟩ := waysIs_ins h
        exact ⟨a, dx, _, e1, e2, rfl⟩) (ead_cons (g0 (Ex.refl _) rfl) ead_nil) fun v ws Hs3 H3 e3 h1 h2 Q0 q0 => by
        obtain ⟨y, rfl, hy⟩ := dps1 h2
        exact ⟨Hs3, _, e3, ⟨v, y, M, W, gs, M.kinds.length, rfl, h1, hy, by omega, heldAll_one D.inv gs, by omega, by omega, rfl⟩, q0⟩) f2.c fun vv Hs3 H3 f3 hvv => ?_
    dsimp only
    have fwt := fw1.trans (f2.trans f3)
    have runs := evd_lcM (K := K) (σ := ((start NLF [m, g]).set 2 (some wv)).set 3 (some vv)) (H := Hs3) (vs := [4]) (te := tMeth (He.ga K "Ways") "run_to" (spD K (rRunTo K P w)) [] E0 (tVar 2) (tCons (tVar 1) (tCons (tVar 4) tNil))) (LFvecs W gs) (fun v => dRun (pickRun M W gs v)) (wk_listA (LFvecs W gs) dV (j := 4) (evd_var (i := 3) (v := vv) rfl hvv)) (by omega) fun i v σ2 H' hi e hS => by
      obtain ⟨u', ⟨a1, e1', p1⟩, rfl⟩ := hS
      rw [hi] at e1'
      cases e1'
      refine ⟨rfl, ?_⟩
      have hmem : v ∈ heldAll W.costs gs := leastOf_mem (List.mem_of_getElem? hi)
      obtain ⟨i0, s0, rr, hr0, hpk⟩ := pickRun_ok (run_exists O D hmem)
      refine evp_meth (PO := WaysIs K P w M W) (w0 (f3.b.trans e) rfl) (fun _ _ _ e h => WaysIs.ex e h) (fun v Hs h => by
        obtain ⟨a, dx, _, _, _, _, _, _, e1, e2⟩ := waysIs_ins h
        exact ⟨a, dx, _, e1, e2, rfl⟩) (ead_cons (g0 (f3.b.trans e) rfl) (ead_cons (evd_var (i := 4) rfl p1) ead_nil)) fun a ws Hs4 H4 e4 h1 h2 Q0 q0 => ?_
      obtain ⟨y, z, rfl, hy, hz'⟩ := dps2 h2
      refine ⟨Hs4, _, e4, ⟨a, y, z, M, W, gs, v, i0, s0, rr, rfl, h1, hy, hz', by omega, hr0.at_, hr0.held, hr0.first, hr0.chain, hr0.short, rfl⟩, fun u Hs5 H5 f5 hu => q0 u Hs5 H5 f5 ?_⟩
      rw [hpk]
      exact hu
    have em : (LFvecs W gs).map (fun v => dRun (pickRun M W gs v)) = (LFruns M W gs).map dRun := by unfold LFruns; rw [List.map_map]; rfl
    rw [em] at runs
    have tab : EvP (tMeth (He.ga K "Ways") "table" (spTab K (rTable K P w)) [] E0 (tVar 2) tNil) (((start NLF [m, g]).set 2 (some wv)).set 3 (some vv)) Hs3 (DictX K (costsD (tableL W.costs))) :=
      evp_meth (PO := WaysIs K P w M W) (w0 f3.b rfl) (fun _ _ _ e h => WaysIs.ex e h) (fun v Hs h => by
        obtain ⟨a, dx, _, _, _, _, _, _, e1, e2⟩ := waysIs_ins h
        exact ⟨a, dx, _, e1, e2, rfl⟩) eap_nil fun v ws Hs4 H4 e4 h1 h2 Q0 q0 => by
        subst h2
        exact ⟨Hs4, _, e4, ⟨v, M, W, M.kinds.length, rfl, h1, D.inv.nd, Nat.le_trans (D.inv.cle O) (by decide), fun e he => inv_vecs O D.inv he, rfl⟩, q0⟩
    refine y_ret (evp_least (K := K) (tv := false) (tr := false) (evd_var (i := 3) (v := vv) rfl hvv) runs tab (tableL_nodup D.inv.nd) (by omega) (by unfold LFruns; rw [List.length_map]; omega) (Nat.le_trans (tableL_len _) (Nat.le_trans (D.inv.cle O) (by decide))) (fun e he => ?_) (fun r hr' => ?_)) f3.c fun u Hs4 H4 f4 hu => kQ gs rfl hok W u Hs4 H4 D (fwt.trans f4) hu
    · obtain ⟨l, h1, _, h3⟩ := tableL_mem he
      rw [h3, List.length_mergeSort]
      exact (inv_vecs O D.inv h1).2
    · unfold LFruns at hr'
      obtain ⟨v, hv, rfl⟩ := List.mem_map.mp hr'
      obtain ⟨i0, s0, rr, hr0, hpk⟩ := pickRun_ok (run_exists O D (leastOf_mem hv))
      rw [hpk, List.length_reverse]
      exact hr0.short
end
end K02
set_option Elab.async false
set_option linter.all false
set_option maxRecDepth 100000
set_option maxHeartbeats 1000000
/-! ### allowances; holds_for -/
namespace K02
open PySem PySem.Spec PyProof.Rows L2 Evl
section
variable {K : PySem.W.Frag} {σ : L2.St} {H : Hp} {te td : TE} {dd : PyData}
theorem evd_lock {d : Addr} {kvs : List (Key × V)} (hd : H d = some (.dK kvs)) (h : ∀ od, EvD K te σ (upd H d (.frz od (.dK kvs))) dd) : EvD K (tLockE te) σ H dd := fun Hs H1 a b Q q => by
  have h1 : Hs d = some (.dK kvs) := a _ _ hd
  have h2 : H1 d = some (.dK kvs) := b _ _ h1
  refine ⟨d, .dK kvs, h2, trivial, fun od => h od (upd Hs d (.frz od (.dK kvs))) (upd H1 d (.frz od (.dK kvs))) (ex_frz a) (ex_frz b) _ fun v Hs2 H2 f p => ?_⟩
  have fd : Hs2 d = some (.frz od (.dK kvs)) := f.b _ _ upd_same
  refine ⟨f.a _ _ upd_same, q v (upd Hs2 d (.dK kvs)) (upd H2 d (.dK kvs)) ⟨ex_back h2 f.a, ex_back h1 f.b, ex_frz f.c, fun x o hx n => ?_⟩ (dp_er (er_free fd) p)⟩
  have ne : x ≠ d := fun z => by rw [z, h1] at n; cases n
  rw [upd_ne ne]
  exact f.d x o (by rw [upd_ne ne]; exact hx) (by rw [upd_ne ne]; exact n)
def FrzK (K : PySem.W.Frag) (ents : List (Key × PyData)) (v : V) (H : Hp) : Prop := ∃ d od kvs, v = .ref d ∧ H d = some (.frz od (.dK kvs)) ∧ EntK K H kvs ents
theorem FrzK.ex {ents : List (Key × PyData)} {v : V} {H H' : Hp} (e : Ex H H') (h : FrzK K ents v H) : FrzK K ents v H' := by
  obtain ⟨d, od, kvs, h1, h2, h3⟩ := h
  exact ⟨d, od, kvs, h1, e _ _ h2, entK_ex e h3⟩
theorem FrzK.r {ents : List (Key × PyData)} {v : V} {H : Hp} (h : FrzK K ents v H) : DkR K ents v H := by
  obtain ⟨d, od, kvs, h1, h2, h3⟩ := h
  exact ⟨d, kvs, h1, .inr ⟨od, h2⟩, h3⟩
theorem entK_at {kvs : List (Key × V)} {ents : List (Key × PyData)} (h : EntK K H kvs ents) {i : Nat} {k : Key} {u : V} (hi : kvs[i]? = some (k, u)) : ∃ e, ents[i]? = some e ∧ k = e.1 := by
  unfold EntK at h
  induction h generalizing i with
  | nil => simp at hi
  | @cons x y l m r t ih =>
    cases i with
    | zero => simp at hi; subst hi; exact ⟨y, rfl, r.1⟩
    | succ i => exact ih (by simpa using hi)
theorem wk_keys {ents : List (Key × PyData)} {j : Nat} (h : EvP td σ H (FrzK K ents)) : Wk (iKeys td) (gName j) σ H ents.length (S1 j fun i v _ => ∃ e, ents[i]? = some e ∧ v = kV e.1) := fun Hs H0 a0 b0 R r =>
  h Hs H0 a0 b0 _ fun v Hs1 H1 f hp => by
    obtain ⟨d, od, kvs, rfl, h1, h2⟩ := hp
    have hl : kvs.length = ents.length := Paired.length h2
    refine ⟨d, od, rfl, .inl ⟨kvs, f.c _ _ h1, r _ Hs1 H1 f fun Hs' H' e1 e2 => ⟨⟨e2 _ _ (e1 _ _ h1), Nat.le_of_eq hl⟩, fun i hi => ⟨⟨e2 _ _ (e1 _ _ h1), by omega⟩, fun x H'' y => ?_⟩⟩⟩⟩
    obtain ⟨rfl, k, u, hk, rfl⟩ := y
    obtain ⟨e, he, rfl⟩ := entK_at h2 hk
    intro σb Q hQ
    exact hQ _ Hs' _ (Fw.refl e2) ⟨_, ⟨e, he, rfl⟩, rfl⟩
end
/-- allowances -/
def alD (al : List (Str × Option Int)) : List (Key × PyData) := al.map fun e => (Sum.inr e.1, dO e.2)
structure AlOk (kinds : List Str) (al : List (Str × Option Int)) : Prop where
  nd : (al.map (·.1)).Nodup
  words : ∀ e ∈ al, wordB e.1 = true ∧ e.1.length ≤ 1000
  pos : ∀ e ∈ al, ∀ i, e.2 = some i → 0 ≤ i
  ks : ∀ e ∈ al, e.1 ∈ kinds
  few : al.length ≤ 1000
def limitsOf (kinds : List Str) (al : List (Str × Option Int)) : List (Option Int) := kinds.map fun k => (getA al k).getD (some 0)
theorem entS_al (al : List (Str × Option Int)) (k : Str) : entS (alD al) (Sum.inr k) = (getA al k).map dO := by
  unfold entS getA alD
  induction al with
  | nil => rfl
  | cons e al ih =>
    rw [List.map_cons]
    by_cases q : e.1 = k
    · rw [List.find?_cons_of_pos (by simp [q]), List.find?_cons_of_pos (by simpa using q)]
      rfl
    · rw [List.find?_cons_of_neg (by simp [q]), List.find?_cons_of_neg (by simpa using q)]
      exact ih
section
variable {P : Program} {w : World} {K : PySem.W.Frag} {mg : Str → Option Value} {base : Heap}
theorem ev_isDict {σ : L2.St} {H : Hp} {te : TE} {ents : List (Key × PyData)} (h : EvP te σ H (DkAt K ents)) : Ev (tCB (rIsi K) (tCons te (tCons (tC (.ty "dict")) tNil))) σ H (.bl true) := fun H1 x Q q =>
  h H H1 (Ex.refl _) x _ fun v Hs2 H2 f p => by
    obtain ⟨d, kvs, rfl, h1, h2⟩ := p
    exact ⟨.ref d, .ty "dict", _, _, true, rfl, .ty "dict", .base (.dK (f.c _ _ h1)), rfl, q H2 f.a⟩
/-- d.get(k, x), a dict from texts -/
theorem evd_sget2 {σ : L2.St} {H : Hp} {te ty tx : TE} {ents : List (Key × PyData)} {k : Key} {d : PyData} (h : EvP te σ H (DkR K ents)) (hi : Ev ty σ H (kV k)) (hx : EvD K tx σ H d) : EvD K (tDGet2 te ty tx) σ H ((entS ents k).getD d) := fun Hs H1 a b Q q =>
  h Hs H1 a b _ fun v Hs2 H2 f p => by
    obtain ⟨ad, kvs, rfl, h1, h2⟩ := p
    refine ⟨ad, rfl, .inl ⟨kvs, ex_rd f.c h1⟩, hi H2 (a.trans (f.b.trans f.c)) _ fun H3 e3 => hx Hs2 H3 (a.trans f.b) (f.c.trans e3) _ fun w Hs4 H4 f4 pw => ?_⟩
    have l := entK_look h2 k
    refine ⟨valV kvs k, .inl ⟨kvs, k, ex_rd f4.c (ex_rd f4.b h1), rfl, rfl⟩, ?_⟩
    have fw := (f.trans (Fw.skip f.c e3)).trans f4
    cases e : entS ents k with
    | some d' =>
      rw [e] at l q
      obtain ⟨u, u1, u2⟩ := l
      rw [u1]
      exact q u Hs4 H4 fw (dp_ex f4.b u2)
    | none =>
      rw [e] at l q
      rw [show valV kvs k = none from l]
      exact q w Hs4 H4 fw pw
theorem y_lockAsg {σ : L2.St} {Hs H : Hp} {te : TE} {i : Nat} {D : Ends} {dd : PyData} {d : Addr} {kvs : List (Key × V)} (hd : Hs d = some (.dK kvs)) (e : Ex Hs H) (h : ∀ od, EvD K te σ (upd Hs d (.frz od (.dK kvs))) dd) (k : ∀ v Hs1 H1, Fw Hs H Hs1 H1 → Dp K Hs1 v dd → D.nx (σ.set i (some v)) H1) : tLock (tAsg te (gName i)) D σ H :=
  evd_lock hd h Hs H (Ex.refl _) e (fun v H' => D.nx (σ.set i (some v)) H') k
theorem inV_str (i : Str) : ∀ gs : List Str, inV (.str i) (gs.map .str) = decide (i ∈ gs)
  | [] => by simp [inV]
  | g :: gs => by
    have ih := inV_str i gs
    unfold inV at ih ⊢
    rw [List.map_cons, List.any_cons, ih]
    show ((g == i) || decide (i ∈ gs)) = decide (i ∈ g :: gs)
    by_cases q : g = i
    · subst q; simp
    · have q' : ¬ i = g := fun z => q z.symm
      simp [q, q']
theorem flat_strs : ∀ gs : List Str, (gs.map V.str).all flatV = true
  | [] => rfl
  | g :: gs => by rw [List.map_cons, List.all_cons, flat_strs gs]; rfl
theorem ev_inLS {σ : L2.St} {H : Hp} {ta tb : TE} {neg : Bool} {i : Str} {gs : List Str} (ha : Ev ta σ H (.str i)) (hb : EvD K tb σ H (.list (gs.map .str))) : Ev (tOp (rIn K neg) ta tb) σ H (.bl (if neg then !decide (i ∈ gs) else decide (i ∈ gs))) := fun H1 e Q q =>
  ha H1 e _ fun H2 e2 => hb H H2 (Ex.refl _) (e.trans e2) _ fun v Hs3 H3 f3 p => by
    obtain ⟨a, xs, rfl, hx, hd⟩ := dp_lst p
    rw [dps_strs_eq hd] at hx
    exact rv_inL (K := K) (H := H3) (neg := neg) (x := .str i) (ex_l f3.c hx) rfl (flat_strs gs) H3 (Ex.refl _) Q fun H4 e4 => by
      rw [inV_str]
      exact q H4 (e2.trans (f3.a.trans e4))
/-- promises that give None -/
def spU (R : List V → Hp → Prop) : Sp := fun vs H Q _ => ∃ Hs, Ex Hs H ∧ R vs Hs ∧ ∀ H2, Ex H H2 → Q .non H2
abbrev NCA : List Str := ["allowances", "limits", "kind", "limit"]
theorem scAllow : FnScope NCA ["allowances"] (defScope sAllow) := ⟨rfl, rfl, rfl, by decide +kernel, rfl, by decide +kernel, by decide +kernel⟩
theorem ok_allow (T : G K mg) : Ok P w K mg base CX0 2 (He.ga K "check_allowances") ["allowances"] (spU fun vs Hs => ∃ x kinds al, vs = [x] ∧ DkAt K (alD al) x Hs ∧ AlOk kinds al) := by
  obtain ⟨fd, F⟩ := T.fun0 12
  obtain ⟨fdN, GN, bN, kN⟩ := ok_number (P := P) (w := w) (base := base) T
  obtain ⟨fdW, GW, bW, kW⟩ := ok_word (P := P) (w := w) (base := base) T
  refine ok_of F scAllow (fun vs H Q E h => ?_) (fun _ _ _ _ _ _ us hl => match us, hl with | [_], _ => rfl) fun cdv A outer s H vs Q E hr h => ?_
  · obtain ⟨_, _, ⟨_, _, _, rfl, _⟩, _⟩ := h
    rfl
  · obtain ⟨Hs, eH, ⟨x, kinds, al, rfl, hx, hA⟩, kQ⟩ := h
    refine ⟨_, pss_cons (ps_if (PW.pt (pw_or (pt_not (pt_val (pe_callB call_isi rfl (T.fr "isinstance") (by decide +kernel) (pa_cons (pv 0) (pa_cons (pe_bltn rfl (T.fr "dict") (by decide +kernel) (v := .ty "dict") rfl) pa_nil)))))
        (pw_or1 (pt_not (pt_val (pe_callB (cr_all rfl) rfl (T.fr "all") (by decide +kernel) (pa_cons (pe_lock (pe_lc (own := [("kind", 2)]) (g := gName 2) (tt := tYes) (te := tCall (spB K rWord) [] E0 (tCons (tVar 2) tNil)) rfl scAllow.nd (pi_keys (pv 0)) (blkOk_by (N := NCA) (sc := defScope sAllow) (by decide +kernel))
          (fun _ _ _ _ _ => pg_name (i := 2) scAllow.nd rfl (Or.inl rfl)) (fun _ _ _ _ _ => pts_nil) (fun _ _ _ _ _ => pe_call GW hr rfl (T.gl "is_word") kW bW .nil pass0 (pa_cons (pv 2) pa_nil)))) pa_nil))))))) (pss_one ps_never) pss_nil)
      (pss_cons (ps_lock (ps_setLc (i := 1) (own := [("kind", 2)]) (g := gName 2) (tt := tYes) (te := tDGet (tVar 0) (tVar 2)) rfl scAllow.nd rfl rfl rfl (pi_keys (pv 0)) (blkOk_by (N := NCA) (sc := defScope sAllow) (by decide +kernel))
          (fun _ _ _ _ _ => pg_name (i := 2) scAllow.nd rfl (Or.inl rfl)) (fun _ _ _ _ _ => pts_nil) (fun _ _ _ _ _ => pe_dget (room_1 hr) (pv 0) (pv 2) (fun _ _ => rfl))))
      (pss_one (ps_if (pt_not (pt_val (pe_callB (cr_all rfl) rfl (T.fr "all") (by decide +kernel) (pa_cons (pe_lc (own := [("limit", 3)]) (g := gName 3) (tt := tYes) (te := tOrV (tIsN (tVar 3)) (tAndV (tCall (spB K (r1D K isNum)) [] E0 (tCons (tVar 3) tNil)) (tOp (rI0 fun i j => .bl (decide (i ≥ j))) (tVar 3) (tC (.int 0))))) rfl scAllow.nd (pi_list (pv 1)) (blkOk_by (N := NCA) (sc := defScope sAllow) (by decide +kernel))
          (fun _ _ _ _ _ => pg_name (i := 3) scAllow.nd rfl (Or.inl rfl)) (fun _ _ _ _ _ => pts_nil) (fun _ _ _ _ _ => pe_or (pe_cmp (pc_isN (pv 3)) rfl) (pe_one (pe_and (pe_call GN hr rfl (T.gl "is_number") kN bN .nil pass0 (pa_cons (pv 3) pa_nil)) (pe_one (pe_cmpR op_ge (pv 3) pe_int (nomark _))))))) pa_nil)))) (pss_one ps_never) pss_nil))), ?_⟩
    have few := hA.few
    have x0 : EvP (tVar 0) (start NCA [x]) Hs (DkAt K (alD al)) := evp_of (ev_var (v := x) rfl) fun _ e => hx.ex e
    obtain ⟨d, kvs, rfl, hd, hde⟩ := id hx
    have allen : (alD al).length = al.length := by unfold alD; rw [List.length_map]
    have frz : ∀ {σ : L2.St} {Ha Hb : Hp} {od : Obj}, Ex Hs Ha → Ex (upd Ha d (.frz od (.dK kvs))) Hb → σ[0]? = some (some (.ref d)) → EvP (tVar 0) σ Hb (FrzK K (alD al)) := fun {σ Ha Hb od} e e2 hs => evp_of (ev_var hs) fun H' e3 => by
      have ha : Ha d = some (.dK kvs) := e _ _ hd
      have f0 : FrzK K (alD al) (.ref d) (upd Ha d (.frz od (.dK kvs))) := ⟨d, od, kvs, rfl, upd_same, entK_er (er_frz ha) (entK_ex e hde)⟩
      exact f0.ex (e2.trans e3)
    have at_ : ∀ {i : Nat} {e : Str × Option Int}, al[i]? = some e → (alD al)[i]? = some (Sum.inr e.1, dO e.2) := fun {i e} h => by unfold alD; rw [List.getElem?_map, h]; rfl
    have key1 := evd_lock (K := K) (σ := start NCA [.ref d]) (te := tLc (iKeys (tVar 0)) (gName 2) tYes (tCall (spB K rWord) [] E0 (tCons (tVar 2) tNil)) [2]) (dd := .list (al.map fun e => PyData.bool (wordB e.1))) hd fun od =>
      evd_lcM (K := K) (vs := [2]) (te := tCall (spB K rWord) [] E0 (tCons (tVar 2) tNil)) al (fun e => PyData.bool (wordB e.1)) ((wk_keys (j := 2) (frz (σ := start NCA [.ref d]) (od := od) (Ex.refl _) (Ex.refl _) rfl)).cast allen) (by omega) fun i e σ2 H' hi ex hS => by
        obtain ⟨u, ⟨e1, h1, rfl⟩, rfl⟩ := hS
        rw [at_ hi] at h1
        cases h1
        refine ⟨rfl, evd_bl (evb_callB (ds := [.str e.1]) (ead_cons (evd_var (i := 2) (v := .str e.1) rfl (.str _)) ead_nil) fun vs Hs' _ hvs => ?_)⟩
        obtain ⟨y, rfl, hy⟩ := dps1 hvs
        have q := dp_str hy
        subst q
        exact ⟨e.1, rfl, Nat.le_trans (hA.words e (List.mem_of_getElem? hi)).2 (by decide), rfl⟩
    have em : al.map (fun e => PyData.bool (wordB e.1)) = (al.map fun e => wordB e.1).map PyData.bool := by rw [List.map_map]; rfl
    rw [em] at key1
    have t1 := et_or (et_not (et_B (ev_isDict x0))) fun _ => et_not (et_B (ev_all key1))
    have hall : ((al.map fun e => wordB e.1).all id) = true := by
      rw [List.all_map]
      exact List.all_eq_true.mpr fun e he => (hA.words e he).1
    rw [hall] at t1
    refine y_if t1 eH (fun hb H1 e1 => absurd hb (by decide)) fun hb H1 e1 => ?_
    refine y_next ?_
    dsimp only
    refine y_lockAsg (K := K) (d := d) (kvs := kvs) (dd := .list (al.map fun e => dO e.2)) hd (eH.trans e1) (fun od => ?_) fun lv Hs2 H2 f2 hlv => ?_
    · refine evd_lcM (K := K) (vs := [2]) (te := tDGet (tVar 0) (tVar 2)) al (fun e => dO e.2) ((wk_keys (j := 2) (frz (σ := start NCA [.ref d]) (od := od) (Ex.refl _) (Ex.refl _) rfl)).cast allen) (by omega) fun i e σ2 H' hi ex hS => ?_
      obtain ⟨u, ⟨e1, h1, rfl⟩, rfl⟩ := hS
      rw [at_ hi] at h1
      cases h1
      refine ⟨rfl, evd_dgetK (k := Sum.inr e.1) ((frz (od := od) (Ex.refl _) ex rfl).imp fun _ _ _ p => p.r) (ev_var (i := 2) (v := .str e.1) rfl) ?_⟩
      rw [entS_al, getA_of_mem hA.nd (List.mem_of_getElem? hi)]
      rfl
    · dsimp only
      have key2 := evd_lcM (K := K) (σ := (start NCA [.ref d]).set 1 (some lv)) (H := Hs2) (vs := [3]) (te := tOrV (tIsN (tVar 3)) (tAndV (tCall (spB K (r1D K isNum)) [] E0 (tCons (tVar 3) tNil)) (tOp (rI0 fun i j => .bl (decide (i ≥ j))) (tVar 3) (tC (.int 0))))) al (fun _ => PyData.bool true) (wk_listA al (fun e => dO e.2) (j := 3) (evd_var (i := 1) (v := lv) rfl hlv)) (by omega) fun i e σ2 H' hi ex hS => by
        obtain ⟨u, ⟨a1, e1, p1⟩, rfl⟩ := hS
        rw [hi] at e1
        cases e1
        refine ⟨rfl, evd_bl ?_⟩
        cases h2 : e.2 with
        | none =>
          rw [h2] at p1
          have q := dp_non (show Dp K H' u .none from p1)
          subst q
          exact ev_orV (a := true) (b := true) (ev_isN (ev_var (v := .non) rfl)) fun z => nomatch z
        | some n =>
          rw [h2] at p1
          have q := dp_int (show Dp K H' u (.int n) from p1)
          subst q
          have hp := hA.pos e (List.mem_of_getElem? hi) n h2
          have c1 := evb_call1 (K := K) (E := E0) (f := isNum) (evd_var (i := 3) (σ := (wipe ((start NCA [.ref d]).set 1 (some lv)) [3]).set 3 (some (.int n))) (H := H') rfl (.int n))
          have c2 := ev_andV c1 (b := decide (n ≥ 0)) fun _ => ev_op (r := rI0 fun i j => .bl (decide (i ≥ j))) (ev_var (i := 3) (v := .int n) rfl) (ev_c (v := .int 0)) rv_I0
          have e3 : (isNum (.int n) && decide (n ≥ 0)) = true := by
            have : decide (n ≥ 0) = true := decide_eq_true hp
            rw [this]
            rfl
          rw [e3] at c2
          exact ev_orV (a := false) (b := true) (ev_isN (ev_var (v := .int n) rfl)) fun _ => c2
      have em2 : al.map (fun _ => PyData.bool true) = (al.map fun _ => true).map PyData.bool := by rw [List.map_map]; rfl
      rw [em2] at key2
      have t2 := et_not (et_B (ev_all key2))
      have hall2 : ((al.map fun _ => true).all id) = true := by
        rw [List.all_map]
        exact List.all_eq_true.mpr fun _ _ => rfl
      rw [hall2] at t2
      refine y_if t2 f2.c (fun hb H3 e3 => absurd hb (by decide)) fun hb H3 e3 => ?_
      exact kQ H3 (e1.trans (f2.a.trans e3))
abbrev NLI : List Str := ["machine", "allowances", "kind"]
theorem scLimits : FnScope NLI ["machine", "allowances"] (defScope sLimits) := ⟨rfl, rfl, rfl, by decide +kernel, rfl, by decide +kernel, by decide +kernel⟩
def rLimits (K : PySem.W.Frag) : List V → Hp → PyData → Prop := fun vs Hs d => ∃ m x M al, vs = [m, x] ∧ MacAt K M m Hs ∧ DkAt K (alD al) x Hs ∧ AlOk M.kinds al ∧ M.kinds.length ≤ 1000 ∧ d = .tuple ((limitsOf M.kinds al).map dO)
theorem ok_limits (T : G K mg) : Ok P w K mg base CX0 3 (He.ga K "limits_of") ["machine", "allowances"] (spD K (rLimits K)) := by
  obtain ⟨fd, F⟩ := T.fun0 13
  obtain ⟨fdA, GA, bA, kA⟩ := ok_allow (P := P) (w := w) (base := base) T
  refine ok_of F scLimits (fun vs H Q E h => ?_) (fun _ _ _ _ _ _ us hl => match us, hl with | [_, _], _ => rfl) fun cdv A outer s H vs Q E hr h => ?_
  · obtain ⟨_, _, _, ⟨_, _, _, _, rfl, _⟩, _⟩ := h
    rfl
  · obtain ⟨Hs, dd, eH, ⟨m, x, M, al, rfl, hm, hx, hA, hz, rfl⟩, kQ⟩ := h
    refine ⟨_, pss_cons (ps_expr (pe_call GA hr rfl (T.gl "check_allowances") kA bA .nil pass0 (pa_cons (pv 1) pa_nil)))
      (pss_cons (ps_if (pt_not (pt_val (pe_callB (cr_all rfl) rfl (T.fr "all") (by decide +kernel) (pa_cons (pe_lock (pe_lc (own := [("kind", 2)]) (g := gName 2) (tt := tYes) (te := tOp (rIn K false) (tVar 2) (tFld K (tVar 0) "kinds")) rfl scLimits.nd (pi_keys (pv 1)) (blkOk_by (N := NLI) (sc := defScope sLimits) (by decide +kernel))
          (fun _ _ _ _ _ => pg_name (i := 2) scLimits.nd rfl (Or.inl rfl)) (fun _ _ _ _ _ => pts_nil) (fun _ _ _ _ _ => pe_cmpR op_in_seq (pv 2) (pe_fld (pv 0) rfl) rfl))) pa_nil)))) (pss_one ps_never) pss_nil)
      (pss_one (ps_ret (pe_callTy call_tuple_of rfl (T.fr "tuple") (by decide +kernel) (pa_cons (pe_lc (own := [("kind", 2)]) (g := gName 2) (tt := tYes) (te := tDGet2 (tVar 1) (tVar 2) (tC (.int 0))) rfl scLimits.nd (pi_list (pe_fld (pv 0) rfl)) (blkOk_by (N := NLI) (sc := defScope sLimits) (by decide +kernel))
          (fun _ _ _ _ _ => pg_name (i := 2) scLimits.nd rfl (Or.inl rfl)) (fun _ _ _ _ _ => pts_nil) (fun _ _ _ _ _ => pe_dget2 (room_1 hr) (pv 1) (pv 2) pe_int ⟨rfl, rfl, rfl, rfl⟩)) pa_nil))))), ?_⟩
    have few := hA.few
    obtain ⟨d, kvs, rfl, hd, hde⟩ := id hx
    have allen : (alD al).length = al.length := by unfold alD; rw [List.length_map]
    have frz : ∀ {σ : L2.St} {Ha Hb : Hp} {od : Obj}, Ex Hs Ha → Ex (upd Ha d (.frz od (.dK kvs))) Hb → σ[1]? = some (some (.ref d)) → EvP (tVar 1) σ Hb (FrzK K (alD al)) := fun {σ Ha Hb od} e e2 hs => evp_of (ev_var hs) fun H' e3 => by
      have ha : Ha d = some (.dK kvs) := e _ _ hd
      have f0 : FrzK K (alD al) (.ref d) (upd Ha d (.frz od (.dK kvs))) := ⟨d, od, kvs, rfl, upd_same, entK_er (er_frz ha) (entK_ex e hde)⟩
      exact f0.ex (e2.trans e3)
    have at_ : ∀ {i : Nat} {e : Str × Option Int}, al[i]? = some e → (alD al)[i]? = some (Sum.inr e.1, dO e.2) := fun {i e} h => by unfold alD; rw [List.getElem?_map, h]; rfl
    refine ⟨.ref d, rfl, Hs, eH, ⟨.ref d, M.kinds, al, rfl, hx, hA⟩, fun H1 e1 => ?_⟩
    have key1 := evd_lock (K := K) (σ := start NLI [m, .ref d]) (te := tLc (iKeys (tVar 1)) (gName 2) tYes (tOp (rIn K false) (tVar 2) (tFld K (tVar 0) "kinds")) [2]) (dd := .list (al.map fun e => PyData.bool true)) hd fun od =>
      evd_lcM (K := K) (vs := [2]) (te := tOp (rIn K false) (tVar 2) (tFld K (tVar 0) "kinds")) al (fun e => PyData.bool true) ((wk_keys (j := 2) (frz (σ := start NLI [m, .ref d]) (od := od) (Ex.refl _) (Ex.refl _) rfl)).cast allen) (by omega) fun i e σ2 H' hi ex hS => by
        obtain ⟨u, ⟨e1, h1, rfl⟩, rfl⟩ := hS
        rw [at_ hi] at h1
        cases h1
        refine ⟨rfl, evd_bl ?_⟩
        have hin := ev_inLS (K := K) (neg := false) (ev_var (i := 2) (v := .str e.1) (σ := (wipe (start NLI [m, .ref d]) [2]).set 2 (some (.str e.1))) (H := H') rfl) (evd_kinds T (evp_mac (i := 0) (v := m) rfl ((hm.er (er_frz hd)).ex ex)))
        have e2 : (if false = true then !decide (e.1 ∈ M.kinds) else decide (e.1 ∈ M.kinds)) = true := by
          rw [if_neg (by decide)]
          exact decide_eq_true (hA.ks e (List.mem_of_getElem? hi))
        rw [e2] at hin
        exact hin
    have em : al.map (fun _ => PyData.bool true) = (al.map fun _ => true).map PyData.bool := by rw [List.map_map]; rfl
    rw [em] at key1
    have t1 := et_not (et_B (ev_all key1))
    have hall : ((al.map fun _ => true).all id) = true := by
      rw [List.all_map]
      exact List.all_eq_true.mpr fun _ _ => rfl
    rw [hall] at t1
    refine y_if t1 (eH.trans e1) (fun hb H2 e2 => absurd hb (by decide)) fun hb H2 e2 => ?_
    refine y_next ?_
    dsimp only
    have fw := fw_skip eH (e1.trans e2)
    have res := evd_tupleOf (evd_lcM (K := K) (σ := start NLI [m, .ref d]) (H := Hs) (vs := [2]) (te := tDGet2 (tVar 1) (tVar 2) (tC (.int 0))) M.kinds (fun k => dO ((getA al k).getD (some 0))) (wk_listA M.kinds .str (j := 2) (evd_kinds T (evp_mac (i := 0) (v := m) rfl hm))) (by omega) fun i k σ2 H' hi ex hS => by
      obtain ⟨u, ⟨a1, e1, p1⟩, rfl⟩ := hS
      rw [hi] at e1
      cases e1
      have q := dp_str p1
      subst q
      refine ⟨rfl, ?_⟩
      have g := evd_sget2 (K := K) (k := Sum.inr k) (d := .int 0) (evp_of (P := DkR K (alD al)) (ev_var (i := 1) (σ := (wipe (start NLI [m, .ref d]) [2]).set 2 (some (.str k))) (H := H') (v := .ref d) rfl) fun _ e => (hx.ex (ex.trans e)).r) (ev_var (i := 2) (v := .str k) rfl) (evd_c (.int 0))
      have e2 : (entS (alD al) (Sum.inr k)).getD (.int 0) = dO ((getA al k).getD (some 0)) := by
        rw [entS_al]
        cases getA al k <;> rfl
      rw [e2] at g
      exact g)
    have e3 : M.kinds.map (fun k => dO ((getA al k).getD (some 0))) = (limitsOf M.kinds al).map dO := by unfold limitsOf; rw [List.map_map]; rfl
    rw [e3] at res
    exact y_ret res fw.c fun v Hs3 H3 f3 hv => kQ v Hs3 H3 (fw.trans f3) hv
/-! holds_for -/
def spHolds (K : PySem.W.Frag) : Sp := fun vs H Q _ => ∃ (Hs : Hp) (m g x : V) (M : Mac) (gs : List Int) (al : List (Str × Option Int)), vs = [m, g, x] ∧ Ex Hs H ∧ MacAt K M m Hs ∧ MOk M ∧ Dp K Hs g (.tuple (gs.map .int)) ∧ okGoals M gs ∧ gs.length ≤ 4 ∧ DkAt K (alD al) x Hs ∧ AlOk M.kinds al ∧
  ∀ W H2, WDone M (limitsOf M.kinds al) W → Ex H H2 → Q (.bl (decide (LFvecs W gs = []))) H2
abbrev NHF : List Str := ["machine", "goals", "allowances", "limits"]
theorem scHolds : FnScope NHF ["machine", "goals", "allowances"] (defScope sHolds) := ⟨rfl, rfl, rfl, by decide +kernel, rfl, by decide +kernel, by decide +kernel⟩
theorem ok_holds (T : G K mg) : Ok P w K mg base CX0 6 (He.ga K "holds_for") ["machine", "goals", "allowances"] (spHolds K) := by
  obtain ⟨fd, F⟩ := T.fun0 26
  obtain ⟨fdS, GS, bS, kS⟩ := ok_states (P := P) (w := w) (base := base) T
  obtain ⟨fdA, GA, bA, kA⟩ := ok_limits (P := P) (w := w) (base := base) T
  obtain ⟨fdW, GW, bW, kW⟩ := ok_waysI (P := P) (w := w) (base := base) T
  obtain ⟨fdL, GL, bL, kL⟩ := ok_wLeast (P := P) (w := w) (base := base) T
  refine ok_of F scHolds (fun vs H Q E h => ?_) (fun _ _ _ _ _ _ us hl => match us, hl with | [_, _, _], _ => rfl) fun cdv A outer s H vs Q E hr h => ?_
  · obtain ⟨_, _, _, _, _, _, _, rfl, _⟩ := h
    rfl
  · obtain ⟨Hs, m, g, x, M, gs, al, rfl, eH, hm, O, hg, hgo, hgl, hx, hA, kQ⟩ := h
    refine ⟨_, pss_cons (ps_expr (pe_call GS (hr.mono (by decide)) rfl (T.gl "check_states") kS bS .nil passL (pa_cons (pv 0) (pa_cons (pv 1) pa_nil))))
      (pss_cons (ps_set (i := 3) scHolds.nd rfl (Or.inl rfl) (pe_call GA (hr.mono (by decide)) rfl (T.gl "limits_of") kA bA .nil pass0 (pa_cons (pv 0) (pa_cons (pv 2) pa_nil))))
      (pss_one (ps_ret (pe_cmpR (op_eqD hr.units) (pe_meth (pe_make (T.make "Ways") GW hr rfl (T.gl "Ways") bW .nil pass0 (pa_cons (pv 0) (pa_cons (pv 3) pa_nil))) (T.cl "Ways") (T.me "Ways" "least") GL (hr.mono (by decide)) bL .nil pass0 (pa_cons (pv 1) pa_nil)) (pe_lst pa_nil) (nomark _))))), ?_⟩
    have few := O.few
    refine ⟨m, rfl, g, rfl, Hs, m, g, M, .tuple (gs.map .int), rfl, eH, hm, hg, fun ds e => by injection e with e; rw [← e, List.length_map]; exact hgo.2, fun _ H1 e1 => ?_, fun hb => absurd hb (by rw [hgo.1]; decide)⟩
    have fw1 := fw_skip eH e1
    dsimp only
    refine y_asg (evd_call1' (K := K) (E := E0) (R := rLimits K) (d := .tuple ((limitsOf M.kinds al).map dO)) (eap2 (evp_mac (i := 0) (σ := start NHF [m, g, x]) (v := m) rfl hm) (fun _ _ _ e h => MacAt.ex e h) (evp_of (P := DkAt K (alD al)) (ev_var (i := 2) (v := x) rfl) fun _ e => hx.ex e)) fun vs Hs' h => by
      obtain ⟨y, z, rfl, h1, h2⟩ := h
      exact ⟨y, z, M, al, rfl, h1, h2, hA, by omega, rfl⟩) fw1.c fun lv Hs2 H2 f2 hlv => ?_
    dsimp only
    have wl := evp_meth (C := He.ga K "Ways") (m := "least") (sp := spD K (rWLeast K P w)) (E := E0) (σ := (start NHF [m, g, x]).set 3 (some lv)) (H := Hs2) (PO := fun v H2 => ∃ W, WDone M (limitsOf M.kinds al) W ∧ WaysIs K P w M W v H2) (R := fun u H2 => ∃ W, WDone M (limitsOf M.kinds al) W ∧ Dp K H2 u (.list ((LFvecs W gs).map dV)))
      (evp_newWays (P := P) (w := w) (E := E0) (lims := limitsOf M.kinds al) (t := true) O (evp_mac (i := 0) (σ := (start NHF [m, g, x]).set 3 (some lv)) (v := m) rfl (hm.ex f2.b)) (evd_var (i := 3) (v := lv) rfl hlv))
      (fun _ _ _ e h => by obtain ⟨W, h1, h2⟩ := h; exact ⟨W, h1, h2.ex e⟩) (fun v Hs h => by
        obtain ⟨W, _, h⟩ := h
        obtain ⟨a, dx, _, _, _, _, _, _, e1, e2⟩ := waysIs_ins h
        exact ⟨a, dx, _, e1, e2, rfl⟩) (ead_cons (evd_var (i := 1) (v := g) rfl (dp_ex f2.b hg)) ead_nil) fun v ws Hs3 H3 e3 h1 h2 Q0 q0 => by
        obtain ⟨W, D, h1⟩ := h1
        obtain ⟨y, rfl, hy⟩ := dps1 h2
        have hal := heldAll_len O D.inv gs
        exact ⟨Hs3, _, e3, ⟨v, y, M, W, gs, M.kinds.length, rfl, h1, hy, by omega, heldAll_one D.inv gs, by omega, by omega, rfl⟩, fun u Hs4 H4 f4 hu => q0 u Hs4 H4 f4 ⟨W, D, hu⟩⟩
    refine wl Hs2 H2 (Ex.refl _) f2.c _ fun u Hs3 H3 f3 hu => ?_
    obtain ⟨W, D, hu⟩ := hu
    refine evd_lst (K := K) (H := Hs3) ead_nil (by simp) Hs3 H3 (Ex.refl _) f3.c _ fun u2 Hs4 H4 f4 hu2 => ?_
    refine ⟨.list ((LFvecs W gs).map dV), .list [], dp_ex (f4.b.trans f4.c) hu, dp_ex f4.c hu2, shaped_Vs _, shaped_Vs [], ?_⟩
    rw [eqv_Vs_nil]
    exact kQ W H4 D (e1.trans (f2.a.trans (f3.a.trans f4.a)))
end
end K02
set_option Elab.async false
set_option linter.all false
set_option maxRecDepth 100000
set_option maxHeartbeats 1000000
/-! ### is_step -/
namespace K02
open PySem PySem.Spec PyProof.Rows L2 Evl
/-- a step that Machine takes -/
structure StpOk (many : Nat) (s : Stp) : Prop where
  st : ∃ i : Nat, s.st = (i : Int) ∧ i < many
  go : ∃ i : Nat, s.go = (i : Int) ∧ i < many
  ki : (s.ki = ("" : Str) ∨ wordB s.ki = true) ∧ s.ki.length ≤ 1000
  se : (s.se = ("" : Str) ∨ wordB s.se = true) ∧ s.se.length ≤ 1000
  good : s.Good
def spStep (K : PySem.W.Frag) : Sp := fun vs H Q _ => ∃ (Hs : Hp) (x : V) (d : Addr) (many : Nat) (s : Stp) (kvs : List (Key × V)), vs = [x, .int (many : Int), .ref d] ∧ Ex Hs H ∧ Dp K Hs x (dStp s) ∧ StpOk many s ∧ H d = some (.dK kvs) ∧ Hs d = none ∧ (valV kvs (.inr "")).isSome = true ∧ kvs.length ≤ 5000 ∧
  ∀ H2 kvs', Fm Hs H Hs H2 → H2 d = some (.dK kvs') → (valV kvs' (.inr "")).isSome = true → kvs'.length ≤ kvs.length + 2 → (∀ b o, b ≠ d → H b = some o → H2 b = some o) → Q (.bl true) H2
section
variable {P : Program} {w : World} {K : PySem.W.Frag} {mg : Str → Option Value} {base : Heap}
abbrev g4 (K : PySem.W.Frag) (i j k l : Nat) : TG := gTup K 4 (gCons (gName i) (gCons (gName j) (gCons (gName k) (gCons (gName l) gNil))))
theorem y_asg4 {σ : L2.St} {H Hs : Hp} {te : TE} {D : Ends} {i j k l : Nat} {a b c d : PyData} (h : EvD K te σ Hs (.tuple [a, b, c, d])) (e : Ex Hs H) (q : ∀ x y z u Hs1 H1, Fw Hs H Hs1 H1 → Dp K Hs1 x a → Dp K Hs1 y b → Dp K Hs1 z c → Dp K Hs1 u d → D.nx ((((σ.set i (some x)).set j (some y)).set k (some z)).set l (some u)) H1) : tAsg te (g4 K i j k l) D σ H :=
  h Hs H (Ex.refl _) e _ fun v Hs1 H1 f p => by
    obtain ⟨T, zs, rfl, hz, hzs⟩ := dp_tup p
    cases hzs with
    | cons p1 hzs =>
      obtain ⟨y, z, u, rfl, p2, p3, p4⟩ := dps3 hzs
      exact ⟨T, _, rfl, ex_t f.c hz, rfl, _, _, rfl, y, [z, u], rfl, z, [u], rfl, u, [], rfl, rfl, q _ y z u Hs1 H1 f p1 p2 p3 p4⟩
abbrev NIS : List Str := ["thing", "many", "known", "state", "kind", "seen", "goal", "one"]
theorem scStep : FnScope NIS ["thing", "many", "known"] (defScope sStep) := ⟨rfl, rfl, rfl, by decide +kernel, rfl, by decide +kernel, by decide +kernel⟩
theorem ok_step (T : G K mg) : Ok P w K mg base CX0 2 (He.ga K "is_step") ["thing", "many", "known"] (spStep K) := by
  obtain ⟨fd, F⟩ := T.fun0 5
  obtain ⟨fdN, GN, bN, kN⟩ := ok_number (P := P) (w := w) (base := base) T
  obtain ⟨fdW, GW, bW, kW⟩ := ok_word (P := P) (w := w) (base := base) T
  refine ok_of F scStep (fun vs H Q E h => ?_) (fun _ _ _ _ _ _ us hl => match us, hl with | [_, _, _], _ => rfl) fun cdv A outer s H vs Q E hr h => ?_
  · obtain ⟨_, _, _, _, _, _, rfl, _⟩ := h
    rfl
  · obtain ⟨Hs, x, d, many, st, kvs, rfl, eH, hx, hok, hd, hnd, hkey, hl, kQ⟩ := h
    refine ⟨_, pss_cons (ps_if (PW.pt (pw_or (pt_not (pt_val (pe_callB call_isi rfl (T.fr "isinstance") (by decide +kernel) (pa_cons (pv 0) (pa_cons (pe_bltn rfl (T.fr "tuple") (by decide +kernel) (v := .ty "tuple") rfl) pa_nil)))))
        (pw_or1 (pt_cmpR op_ne (pe_callB call_len_seq rfl (T.fr "len") (by decide +kernel) (pa_cons (pv 0) pa_nil)) pe_int (nomark _))))) (pss_one (ps_ret pe_bl)) pss_nil)
      (pss_cons (ps_asg (pv 0) (pg_tup rfl (pgs_cons (pg_name (i := 3) scStep.nd rfl (Or.inl rfl)) (pgs_cons (pg_name (i := 4) scStep.nd rfl (Or.inl rfl)) (pgs_cons (pg_name (i := 5) scStep.nd rfl (Or.inl rfl)) (pgs_cons (pg_name (i := 6) scStep.nd rfl (Or.inl rfl)) pgs_nil))))))
      (pss_cons (ps_if (PW.pt (pw_or (pt_not (pt_val (pe_call GN hr rfl (T.gl "is_number") kN bN .nil pass0 (pa_cons (pv 3) pa_nil))))
          (pw_or (pt_not (pt_val (pe_call GN hr rfl (T.gl "is_number") kN bN .nil pass0 (pa_cons (pv 6) pa_nil))))
          (pw_or (pt_not (pt_chain op_le op_lt pe_int (pv 3) (pv 1))) (pw_or1 (pt_not (pt_chain op_le op_lt pe_int (pv 6) (pv 1)))))))) (pss_one (ps_ret pe_bl)) pss_nil)
      (pss_cons (ps_for PassesOwn.never rfl (pi_tup (pe_tup (pa_cons (pv 4) (pa_cons (pv 5) pa_nil)))) (pg_name (i := 7) scStep.nd rfl (Or.inl rfl))
        (pss_cons (ps_if (PW.pt (pw_or (pt_not (pt_val (pe_callB call_isi rfl (T.fr "isinstance") (by decide +kernel) (pa_cons (pv 7) (pa_cons (pe_bltn rfl (T.fr "str") (by decide +kernel) (v := .ty "str") rfl) pa_nil)))))
          (pw_or1 (PW.pt (pw_and (pt_cmp (pc_dnotin (room_1 hr) (pv 7) (pv 2))) (pw_and1 (pt_not (pt_val (pe_call GW hr rfl (T.gl "is_word") kW bW .nil pass0 (pa_cons (pv 7) pa_nil)))))))))) (pss_one (ps_ret pe_bl)) pss_nil)
        (pss_one (ps_dput (room_1 hr) (pv 2) (pv 7) pe_bl rfl))))
      (pss_one (ps_ret pe_bl))))), ?_⟩
    have hx' : EvD K (tVar 0) (start NIS [x, .int (many : Int), .ref d]) Hs (dStp st) := evd_var (v := x) rfl hx
    have t1 := et_or (et_not (et_B (ev_isi hx' (kit_tuple (dStp st))))) fun _ => et_test (ev_neI (ev_lenD (t := true) (K := K) hx') (ev_c (v := .int 4)))
    refine y_if t1 eH (fun hb H1 e1 => absurd hb (by simp [isTupT, dStp])) fun hb H1 e1 => ?_
    refine y_next ?_
    dsimp only
    refine y_asg4 (K := K) (i := 3) (j := 4) (k := 5) (l := 6) hx' (eH.trans e1) fun y1 y2 y3 y4 Hs2 H2 f2 p1 p2 p3 p4 => ?_
    have q1 := dp_int p1
    have q2 := dp_str p2
    have q3 := dp_str p3
    have q4 := dp_int p4
    subst q1 q2 q3 q4
    dsimp only
    obtain ⟨i1, hi1, him1⟩ := hok.st
    obtain ⟨i2, hi2, him2⟩ := hok.go
    have n3 := evb_call1 (K := K) (E := E0) (f := isNum) (evd_var (i := 3) (v := .int st.st) (σ := [some x, some (.int (many : Int)), some (.ref d), some (.int st.st), some (.str st.ki), some (.str st.se), some (.int st.go), none]) (H := Hs2) rfl (.int st.st))
    have n6 := evb_call1 (K := K) (E := E0) (f := isNum) (evd_var (i := 6) (v := .int st.go) (σ := [some x, some (.int (many : Int)), some (.ref d), some (.int st.st), some (.str st.ki), some (.str st.se), some (.int st.go), none]) (H := Hs2) rfl (.int st.go))
    have c3 := ev_chainB (r := rI0 fun i j => .bl (decide (i ≤ j))) (r' := rI0 fun i j => .bl (decide (i < j))) (σ := [some x, some (.int (many : Int)), some (.ref d), some (.int st.st), some (.str st.ki), some (.str st.se), some (.int st.go), none]) (H := Hs2) (ev_c (v := .int 0)) (ev_var (i := 3) (v := .int st.st) rfl) rv_I0 (fun _ => ev_var (i := 1) (v := .int (many : Int)) rfl) fun _ => rv_I0
    have c6 := ev_chainB (r := rI0 fun i j => .bl (decide (i ≤ j))) (r' := rI0 fun i j => .bl (decide (i < j))) (σ := [some x, some (.int (many : Int)), some (.ref d), some (.int st.st), some (.str st.ki), some (.str st.se), some (.int st.go), none]) (H := Hs2) (ev_c (v := .int 0)) (ev_var (i := 6) (v := .int st.go) rfl) rv_I0 (fun _ => ev_var (i := 1) (v := .int (many : Int)) rfl) fun _ => rv_I0
    have b3 : (decide (0 ≤ st.st) && decide (st.st < (many : Int))) = true := by rw [hi1]; simp; exact him1
    have b6 : (decide (0 ≤ st.go) && decide (st.go < (many : Int))) = true := by rw [hi2]; simp; exact him2
    rw [b3] at c3
    rw [b6] at c6
    have t2 := et_or (et_not (et_B n3)) fun _ => et_or (et_not (et_B n6)) fun _ => et_or (et_not (et_test c3)) fun _ => et_not (et_test c6)
    refine y_if t2 f2.c (fun hb H3 e3 => absurd hb (by simp [isNum])) fun hb H3 e3 => ?_
    refine y_next ?_
    dsimp only
    have hd3 : H3 d = some (.dK kvs) := e3 _ _ (f2.a _ _ (e1 _ _ hd))
    have m3 : Fm Hs H Hs2 H3 := ((fw_skip eH e1).trans (f2.trans (fw_skip f2.c e3))).m
    have nd2 : Hs2 d = none := f2.d _ _ (e1 _ _ hd) hnd
    have tupv : EvD K (tTup (tCons (tVar 4) (tCons (tVar 5) tNil))) [some x, some (.int (many : Int)), some (.ref d), some (.int st.st), some (.str st.ki), some (.str st.se), some (.int st.go), none] Hs2 (.tuple ([st.ki, st.se].map .str)) :=
      evd_tup (ead_cons (evd_var (i := 4) (v := .str st.ki) rfl (.str _)) (ead_cons (evd_var (i := 5) (v := .str st.se) rfl (.str _)) ead_nil)) (by simp)
    refine y_for (wk_tupA [st.ki, st.se] .str (j := 7) tupv) m3.c (fun i σ' Hs' H' => ∃ kvs' z, σ' = [some x, some (.int (many : Int)), some (.ref d), some (.int st.st), some (.str st.ki), some (.str st.se), some (.int st.go), z] ∧ Fm Hs H Hs' H' ∧ Hs' d = none ∧ H' d = some (.dK kvs') ∧ (valV kvs' (.inr "")).isSome = true ∧ kvs'.length ≤ kvs.length + i ∧ ∀ b o, b ≠ d → H b = some o → H' b = some o)
      (fun Hs4 H4 f4 => ⟨kvs, none, rfl, m3.trans f4.m, f4.d _ _ hd3 nd2, f4.a _ _ hd3, hkey, Nat.le_refl _, fun b o _ hb => f4.a _ _ (e3 _ _ (f2.a _ _ (e1 _ _ hb)))⟩) (fun i σ' Hs' H' hi f iv σ4 Hs4 H4 f4 hS N hN => ?_) fun σ' Hs' H' f iv => ?_
    · obtain ⟨kvs', z, rfl, fm, hn', hd', hk', hl', fr'⟩ := iv
      obtain ⟨u, ⟨w1, hw1, pw⟩, rfl⟩ := hS
      have q := dp_str pw
      subst q
      have hd4 := f4.a _ _ hd'
      have hw : (w1 = ("" : Str) ∨ wordB w1 = true) ∧ w1.length ≤ 1000 := by
        have := List.mem_of_getElem? hw1
        rcases List.mem_cons.mp this with e | e
        · rw [e]; exact hok.ki
        · rw [List.mem_singleton.mp e]; exact hok.se
      have vv : EvD K (tVar 7) [some x, some (.int (many : Int)), some (.ref d), some (.int st.st), some (.str st.ki), some (.str st.se), some (.int st.go), some (.str w1)] H4 (.str w1) := evd_var (v := .str w1) rfl (.str w1)
      have nin : Ev (tDNotIn (tVar 7) (tVar 2)) [some x, some (.int (many : Int)), some (.ref d), some (.int st.st), some (.str st.ki), some (.str st.se), some (.int st.go), some (.str w1)] H4 (.bl (!(valV kvs' (.inr w1)).isSome)) := fun H5 e5 Q0 q0 =>
        ⟨.str w1, rfl, .ref d, rfl, d, _, rfl, .inl ⟨kvs', .inr w1, .inl (e5 _ _ hd4), rfl, rfl⟩, q0 H5 (Ex.refl _)⟩
      have isw := evb_callB (K := K) (E := E0) (R := rWord) (b := wordB w1) (ds := [.str w1]) (ead_cons vv ead_nil) fun vs Hs' _ hvs => by
        obtain ⟨y, rfl, hy⟩ := dps1 hvs
        have q := dp_str hy
        subst q
        exact ⟨w1, rfl, by omega, rfl⟩
      have t3 := et_or (et_not (et_B (ev_isi vv (kit_str (.str w1))))) fun _ => et_and (et_B nin) fun _ => et_not (et_B isw)
      have bf : (!isStrT (.str w1) || (!(valV kvs' (.inr w1)).isSome && !wordB w1)) = false := by
        rcases hw.1 with e | e
        · rw [e, hk']; rfl
        · rw [e]; simp [isStrT]
      rw [bf] at t3
      refine y_if t3 (Ex.refl _) (fun hb H5 e5 => absurd hb (by decide)) fun hb H5 e5 => ?_
      refine y_next ?_
      dsimp only
      have hd5 := e5 _ _ hd4
      have kl : kvs'.length < 100000 := by
        have : i < 2 := hi
        omega
      refine ⟨.ref d, rfl, .str w1, rfl, d, _, rfl, DPut.k (k := .inr w1) hd5 (sz_lt kl), ?_⟩
      have n4 := f4.d _ _ hd' hn'
      have mm : Fm Hs' H' Hs4 (upd H5 d (.dK (putK kvs' (.inr w1) (.bl true)))) := (f4.trans (fw_skip f4.c e5)).m.trans (Fm.mut (f4.c.trans e5) n4)
      refine hN _ Hs4 _ mm ⟨putK kvs' (.inr w1) (.bl true), some (.str w1), rfl, fm.trans mm, n4, upd_same, ?_, ?_, fun b o hb h => ?_⟩
      · rw [valV_put]
        split
        · rfl
        · exact hk'
      · have := length_putK kvs' (.inr w1) (.bl true)
        omega
      · rw [upd_ne hb]
        exact e5 _ _ (f4.a _ _ (fr' b o hb h))
    · obtain ⟨kvs', z, rfl, fm, hn', hd', hk', hl', fr'⟩ := iv
      exact kQ H' kvs' ⟨fm.a, Ex.refl _, fm.b.trans fm.c, fun _ _ _ n => n⟩ hd' hk' hl' fr'
end
end K02
set_option Elab.async false
set_option linter.all false
set_option maxRecDepth 100000
set_option maxHeartbeats 1000000
/-! ### Machine.__init__ -/
namespace K02
open PySem PySem.Spec PyProof.Rows L2 Evl
/-! steps as keys, sorted -/
def kStp (s : Stp) : NestedKey := .tup [.num s.st, .text s.ki, .text s.se, .num s.go]
theorem kStp_data (s : Stp) : (kStp s).data = dStp s := by simp [kStp, dStp, NestedKey.data, NestedKey.datas]
theorem kStp_inj (a b : Stp) (h : kStp a = kStp b) : a = b := by
  obtain ⟨a1, a2, a3, a4⟩ := a
  obtain ⟨b1, b2, b3, b4⟩ := b
  simp [kStp] at h
  simp [h]
theorem kStp_depth (s : Stp) : (kStp s).depth ≤ 8 := by simp [kStp, NestedKey.depth, NestedKey.depthAll]
def sortS (raw : List Stp) : List Stp := (dd raw).mergeSort (PySem.W.dataLe false dStp)
theorem sortS_mem (raw : List Stp) (s : Stp) : s ∈ sortS raw ↔ s ∈ raw := by
  unfold sortS
  rw [(List.mergeSort_perm _ _).mem_iff, dd_mem]
theorem sortS_len (raw : List Stp) : (sortS raw).length ≤ raw.length := by
  unfold sortS
  rw [List.length_mergeSort]
  exact dd_len raw
theorem sok_S (l : List Stp) : SOk (l.map dStp) := by
  refine ⟨PySem.W.AllAlike.of fun b b' => ?_, .inl (PySem.W.Sortable.tuples fun b => ⟨_, _, rfl⟩), fun d hd => ?_⟩
  · simp [dStp, PySem.W.alike, PySem.W.alikeAll]
  · obtain ⟨b, _, rfl⟩ := List.mem_map.mp hd
    rw [depth_S]
    decide
theorem dd_map {α β : Type} [DecidableEq α] [DecidableEq β] (f : α → β) (hf : ∀ x y, f x = f y → x = y) (l : List α) : dd (l.map f) = (dd l).map f := by
  have : ∀ n, dd ((l.take n).map f) = (dd (l.take n)).map f := by
    intro n
    induction n with
    | zero => rfl
    | succ n ih =>
      by_cases h : n < l.length
      · rw [List.take_add_one, List.getElem?_eq_getElem h]
        show dd ((l.take n ++ [l[n]]).map f) = (dd (l.take n ++ [l[n]])).map f
        rw [List.map_append, dd_snoc, ddOn_map hf, ← ih]
        exact dd_snoc _ _
      · rw [List.take_of_length_le (by omega)] at ih ⊢
        exact ih
  have := this l.length
  rw [List.take_length] at this
  exact this
/-- sorted(d), d a dict from texts -/
def rSortSt : List V → Hp → VK → Prop := fun xs H Q => ∃ (a : Addr) (kvs : List (Key × V)) (ks : List Str), xs = [.ref a] ∧ Rd H a (.dK kvs) ∧ kvs.map (·.1) = ks.map Sum.inr ∧ ks.length < 64 ∧
    ∀ ys p, ys.Perm ks → sortedS ys = true → H p = none → Q (.ref p) (upd H p (.lst (ys.map V.str)))
theorem dps_strs {K : PySem.W.Frag} {H : Hp} : ∀ ys : List Str, DpAll K H (ys.map V.str) (ys.map PyData.str)
  | [] => .nil
  | y :: ys => .cons (.str y) (dps_strs ys)
theorem evp_sortSt {K : PySem.W.Frag} {σ : L2.St} {H : Hp} {te : TE} {ents : List (Key × PyData)} {ks : List Str} (h : EvP te σ H (DkAt K ents)) (hk : ents.map (·.1) = ks.map Sum.inr) (hl : ks.length < 64) : EvP (tCB rSortSt (tCons te tNil)) σ H (fun v H2 => ∃ ys : List Str, ys.Perm ks ∧ Dp K H2 v (.list (ys.map .str))) := fun Hs H1 a b Q q =>
  h Hs H1 a b _ fun v Hs2 H2 f p => by
    obtain ⟨d, kvs, rfl, h1, h2⟩ := p
    have e : kvs.map (·.1) = ents.map (·.1) := by
      unfold EntK at h2
      clear hk h1 f h
      induction h2 with
      | nil => rfl
      | @cons x y l m r t ih =>
        show x.1 :: l.map (·.1) = y.1 :: m.map (·.1)
        rw [r.1, ih]
    exact ⟨d, kvs, ks, rfl, .inl (f.c _ _ h1), e.trans hk, hl, fun ys l hp _ hn => q _ _ _ (f.trans (Fw.new f.c hn)) ⟨ys, hp, .lst (sq_of upd_same) (dps_strs ys)⟩⟩
/-! {state: [] for state in range(n)} -/
def mkW (ls : List Addr) : List (Key × V) := ls.zipIdx.map fun p => (Sum.inl (p.2 : Int), V.ref p.1)
theorem mkW_snoc (ls : List Addr) (p : Addr) : mkW (ls ++ [p]) = mkW ls ++ [(Sum.inl (ls.length : Int), V.ref p)] := by
  unfold mkW
  rw [List.zipIdx_append, List.map_append]
  simp
theorem mkW_none (ls : List Addr) : ∀ {i : Nat}, ls.length ≤ i → valV (mkW ls) (.inl (i : Int)) = none := fun {i} h => by
  unfold valV
  rw [Option.map_eq_none_iff, List.find?_eq_none]
  intro kv hkv
  unfold mkW at hkv
  obtain ⟨p, hp, e⟩ := List.mem_map.mp hkv
  obtain ⟨j, hj⟩ := List.mem_iff_getElem?.mp hp
  rw [List.getElem?_zipIdx] at hj
  cases g2 : ls[j]? with
  | none => rw [g2] at hj; cases hj
  | some a =>
    rw [g2] at hj
    cases hj
    have := (List.getElem?_eq_some_iff.mp g2).1
    rw [← e]
    simp
    omega
theorem mkW_at : ∀ (ls : List Addr) {i : Nat} {a : Addr}, ls[i]? = some a → valV (mkW ls) (.inl (i : Int)) = some (.ref a) := fun ls {i a} h => by
  have key : ∀ (l : List (Addr × Nat)), (l.map Prod.snd).Nodup → (a, i) ∈ l → valV (l.map fun p => ((Sum.inl (p.2 : Int) : Key), V.ref p.1)) (.inl (i : Int)) = some (.ref a) := by
    intro l
    induction l with
    | nil => intro _ hm; cases hm
    | cons p l ih =>
      intro hl hm
      rw [List.map_cons]
      by_cases q : p.2 = i
      · rw [valV_pos (by simp [q])]
        rcases List.mem_cons.mp hm with e | e
        · rw [← e]
        · exact absurd (List.mem_map.mpr ⟨(a, i), e, rfl⟩) (q ▸ (List.nodup_cons.mp hl).1)
      · rw [valV_neg (by intro z; exact q (by have := Sum.inl.inj z; omega))]
        refine ih (List.nodup_cons.mp hl).2 ?_
        rcases List.mem_cons.mp hm with e | e
        · exact absurd (by rw [← e]) q
        · exact e
  refine key _ ?_ ?_
  · rw [List.zipIdx_map_snd]
    exact List.nodup_range'
  · rw [List.mem_iff_getElem?]
    exact ⟨i, by rw [List.getElem?_zipIdx, h, Nat.zero_add]; rfl⟩
theorem wp_ways0 {K : PySem.W.Frag} {σ : L2.St} {H : Hp} {ta : TA} {n : Nat} {j : Nat} {Q : VK} (h : EvA ta σ H [.int (n : Int)]) (hn : n ≤ 1000) (hw : ∀ u, wipe ((wipe σ [j]).set j (some u)) [j] = wipe σ [j]) (hj : ∀ u, ((wipe σ [j]).set j (some u))[j]? = some (some u))
    (q : ∀ (D : Addr) (ls : List Addr) (H' : Hp), H D = none → ls.length = n → ls.Nodup → (∀ l ∈ ls, H l = none ∧ l ≠ D ∧ H' l = some (.lst [])) → Ex H H' → H' D = some (.dK (mkW ls)) → Q (.ref D) H') :
    tDg (fun _ => .dK []) PutKk (iRng1 ta) (gName j) tYes (tVar j) (tLst tNil) [j] σ H Q :=
  h H (Ex.refl _) _ fun H1 e1 => ⟨(n : Int), rfl, by omega, by omega, fun D hD => by
    refine ⟨fun i m H' => m = n - i ∧ i ≤ n ∧ ∃ ls : List Addr, ls.length = i ∧ ls.Nodup ∧ (∀ l ∈ ls, H1 l = none ∧ l ≠ D ∧ H' l = some (.lst [])) ∧ Ex H1 H' ∧ H' D = some (.dK (mkW ls)), ⟨n, by simp, Nat.zero_le _, [], rfl, List.nodup_nil, fun l hl => absurd hl (by simp), Ex.new hD, upd_same⟩, ?_⟩
    rintro i m H' ⟨rfl, hi, ls, hl, hnd, hls, ex, hDD⟩
    by_cases hlt : i < n
    · refine .inr ⟨by show i < ((n : Int)).toNat; simpa using hlt, fun H'' => i + 1 ≤ n ∧ ∃ ls : List Addr, ls.length = i + 1 ∧ ls.Nodup ∧ (∀ l ∈ ls, H1 l = none ∧ l ≠ D ∧ H'' l = some (.lst [])) ∧ Ex H1 H'' ∧ H'' D = some (.dK (mkW ls)), fun H'' w => ⟨n - (i + 1), by omega, rfl, w⟩, fun x H'' y => ?_⟩
      obtain ⟨rfl, rfl⟩ := y
      refine ⟨hw _, ?_⟩
      unfold tYes
      dsimp only
      rw [if_pos rfl]
      refine ⟨_, hj _, Nat.zero_le _, fun p hp => ⟨mkW ls, .inl (i : Int), by rw [Int.zero_add]; rfl, by rw [upd_ne (ne_of_none hDD hp)]; exact hDD, ?_, hlt, ls ++ [p], by simp [hl], ?_, ?_, ?_, ?_⟩⟩
      · unfold mkW
        rw [List.length_map, List.length_zipIdx]
        exact sz_lt (by omega)
      · rw [List.nodup_append]
        exact ⟨hnd, by simp, fun a ha b hb e => by
          rw [List.mem_singleton] at hb
          have := (hls a ha).2.2
          rw [e, hb, hp] at this
          cases this⟩
      · intro l hl'
        have pD : p ≠ D := fun z => by rw [z, hDD] at hp; cases hp
        rcases List.mem_append.mp hl' with z | z
        · obtain ⟨z1, z2, z3⟩ := hls l z
          exact ⟨z1, z2, by rw [upd_ne z2, upd_ne (ne_of_none z3 hp)]; exact z3⟩
        · rw [List.mem_singleton.mp z]
          exact ⟨fresh_back ex hp, pD, by rw [upd_ne pD, upd_same]⟩
      · exact Ex.mut (ex.trans (Ex.new hp)) hD
      · rw [upd_same, mkW_snoc, hl, putK_new _ (mkW_none ls (by omega))]
    · have ei : i = n := by omega
      subst ei
      exact .inl ⟨Nat.le_of_eq (by simp), q D ls H' (fresh_back e1 hD) hl hnd (fun l hl' => ⟨fresh_back e1 (hls l hl').1, (hls l hl').2⟩) (e1.trans ex) hDD⟩⟩
theorem paired_mk {α β : Type} {R : α → β → Prop} : ∀ {as : List α} {bs : List β}, as.length = bs.length → (∀ (i : Nat) (a : α) (b : β), as[i]? = some a → bs[i]? = some b → R a b) → Paired R as bs
  | [], [], _, _ => .nil
  | a :: as, b :: bs, h, r => .cons (r 0 a b rfl rfl) (paired_mk (Nat.succ.inj h) fun i x y hx hy => r (i + 1) x y (by simpa using hx) (by simpa using hy))
  | [], _ :: _, h, _ => by cases h
  | _ :: _, [], h, _ => by cases h
theorem y_fldT {K : PySem.W.Frag} {σ : L2.St} {H : Hp} {ta tv : TE} {f : Str} {D : Ends} (h : tv σ H fun y H1 => ta σ H1 fun x H2 => ∃ a C dx fs, x = .ref a ∧ H2 a = some (.ins C dx fs) ∧ Cls K C ∧ NoAttr K C f ∧ fs.length < 1000 ∧ D.nx σ (upd H2 a (.ins C dx (putF f y fs)))) : sFld K ta tv f D σ H := h
/-- a reading with the new instance in sight -/
theorem evp_withX {σ : L2.St} {Hs H : Hp} {te : TE} {P : V → Hp → Prop} {C dx x : Addr} {fs : List (Str × V)} {Q : VK} (hx : H x = some (.ins C dx fs)) (nx : Hs x = none) (e : Ex Hs H) (h : EvP te σ (upd Hs x (.ins C dx fs)) P) (k : ∀ v Hs1 H1, Fw Hs H Hs1 H1 → (∃ Hs1', P v Hs1' ∧ Exd Hs1' Hs1) → Q v H1) : te σ H Q := by
  have b : Ex (upd Hs x (.ins C dx fs)) H := fun a u ha => by
    by_cases q : a = x
    · subst q; rw [upd_same] at ha; rw [← ha]; exact hx
    · rw [upd_ne q] at ha; exact e a u ha
  refine h _ H (Ex.refl _) b _ fun v Hs1 H1 f p => k v (rmA Hs1 x) H1 ⟨f.a, fun a u ha => ?_, fun a u ha => ?_, fun a u ha n => ?_⟩ ⟨Hs1, p, fun a u ha => ?_⟩
  · have ne := ne_of_none ha nx
    rw [rmA_ne ne]
    exact f.b a u (by rw [upd_ne ne]; exact ha)
  · by_cases q : a = x
    · subst q; rw [rmA_same] at ha; cases ha
    · rw [rmA_ne q] at ha; exact f.c a u ha
  · by_cases q : a = x
    · subst q; exact rmA_same
    · rw [rmA_ne q]; exact f.d a u ha (by rw [upd_ne q]; exact n)
  · by_cases q : a = x
    · subst q
      have := f.b a _ upd_same
      rw [this] at ha
      cases ha
      exact .inr ⟨_, _, _, rfl⟩
    · exact .inl (by rw [rmA_ne q]; exact ha)
abbrev mF1 (n : V) : List (Str × V) := [("many", n)]
abbrev mF2 (n s : V) : List (Str × V) := [("many", n), ("steps", s)]
abbrev mF3 (n s w : V) : List (Str × V) := [("many", n), ("steps", s), ("ways", w)]
abbrev mF4 (n s w k : V) : List (Str × V) := [("many", n), ("steps", s), ("ways", w), ("kinds", k)]
abbrev mF5 (n s w k o : V) : List (Str × V) := [("many", n), ("steps", s), ("ways", w), ("kinds", k), ("words", o)]
theorem mf1 (n : V) : putF "many" n [] = mF1 n := rfl
theorem mf2 (n s : V) : putF "steps" s (mF1 n) = mF2 n s := by rfl
theorem mf3 (n s w : V) : putF "ways" w (mF2 n s) = mF3 n s w := by rfl
theorem mf4 (n s w k : V) : putF "kinds" k (mF3 n s w) = mF4 n s w k := by rfl
theorem mf5 (n s w k o : V) : putF "words" o (mF4 n s w k) = mF5 n s w k o := by rfl
/-- what Machine(..) makes -/
structure Raw (n : Nat) (raw : List Stp) : Prop where
  pos : 0 < n
  small : n ≤ 4
  few : raw.length ≤ 40
  ok : ∀ s ∈ raw, StpOk n s
def macOf (n : Nat) (raw : List Stp) (R : Raw n raw) (kinds : List Str) (hk : ∀ k ∈ kinds, PyData.strOk k = true) : Mac :=
  ⟨n, sortS raw, kinds, fun j => (sortS raw).filter fun s => decide (s.st = (j : Int)), fun s hs => (R.ok s ((sortS_mem raw s).mp hs)).good, fun j s hs => (R.ok s ((sortS_mem raw s).mp (List.mem_filter.mp hs).1)).good, hk⟩
def kindsIs (raw : List Stp) (kinds : List Str) : Prop := kinds.Nodup ∧ ∀ k, k ∈ kinds ↔ k ≠ ("" : Str) ∧ ∃ s ∈ raw, s.ki = k
def MFin (K : PySem.W.Frag) (M : Mac) (fs : List (Str × V)) (H : Hp) : Prop := ∃ s kd d kvs, fs.lookup ("many" : Str) = some (.int M.many) ∧ (fs.lookup ("steps" : Str) = some s ∧ Dp K H s (.tuple (M.steps.map dStp))) ∧
  (fs.lookup ("kinds" : Str) = some kd ∧ Dp K H kd (.list (M.kinds.map .str))) ∧ fs.lookup ("ways" : Str) = some (.ref d) ∧ Rd H d (.dK kvs) ∧ EntD K H kvs (waysD M)
def rMachI (K : PySem.W.Frag) : List V → Hp → (List (Str × V) → Hp → Prop) → Prop := fun rest Hs Fin => ∃ (y : V) (n : Nat) (raw : List Stp) (R : Raw n raw), rest = [.int (n : Int), y] ∧ Dp K Hs y (.list (raw.map dStp)) ∧ ∀ fs H2 kinds hk, kindsIs raw kinds → MFin K (macOf n raw R kinds hk) fs H2 → Fin fs H2
section
variable {P : Program} {w : World} {K : PySem.W.Frag} {mg : Str → Option Value} {base : Heap}
abbrev NMI : List Str := ["self", "many", "steps", "known", "place", "step", "state"]
theorem scMachI : FnScope NMI ["self", "many", "steps"] (defScope sMachineI) := ⟨rfl, rfl, rfl, by decide +kernel, rfl, by decide +kernel, by decide +kernel⟩
theorem ok_machI (T : G K mg) : Ok P w K mg base CX0 3 (He.ma K (He.ga K "Machine") "__init__") ["self", "many", "steps"] (spInit (He.ga K "Machine") (rMachI K)) := by
  obtain ⟨fd, F⟩ := T.funM 6
  obtain ⟨fdN, GN, bN, kN⟩ := ok_number (P := P) (w := w) (base := base) T
  obtain ⟨fdS, GS, bS, kS⟩ := ok_step (P := P) (w := w) (base := base) T
  obtain ⟨tk, hst⟩ := T.states
  refine ok_of F scMachI (fun vs H Q E h => ?_) (fun _ _ _ _ _ _ us hl => match us, hl with | [_, _, _], _ => rfl) fun cdv A outer s H vs Q E hr h => ?_
  · obtain ⟨_, _, _, _, _, rfl, _, _, _, ⟨_, _, _, _, rfl, _⟩, _⟩ := h
    rfl
  · obtain ⟨Hs, x, dx, rest, Fin, rfl, hx, hsx, eH, ⟨y, n, raw, R, rfl, hy, hF⟩, kQ⟩ := h
    refine ⟨_, pss_cons (ps_if (PW.pt (pw_or (pt_not (pt_val (pe_call GN (hr.mono (by decide)) rfl (T.gl "is_number") kN bN .nil pass0 (pa_cons (pv 1) pa_nil))))
          (pw_or (pt_not (pt_chain op_le op_le pe_int (pv 1) (pe_glob rfl hst (v := .int 3000) ⟨tk, rfl⟩)))
          (pw_or1 (pt_not (pt_val (pe_callB call_isiT rfl (T.fr "isinstance") (by decide +kernel) (pa_cons (pv 2) (pa_cons (pe_tup (pa_cons (pe_bltn rfl (T.fr "list") (by decide +kernel) (v := .ty "list") rfl) (pa_cons (pe_bltn rfl (T.fr "tuple") (by decide +kernel) (v := .ty "tuple") rfl) pa_nil))) pa_nil))))))))) (pss_one ps_never) pss_nil)
      (pss_cons (ps_set (i := 3) scMachI.nd rfl (Or.inl rfl) (pe_disp (pps_cons pe_str pe_bl pps_nil) rfl rfl (by decide) (by decide)))
      (pss_cons (ps_for PassesOwn.never rfl (pi_enum rfl (T.fr "enumerate") (pa_cons (pv 2) pa_nil)) (pg_tup rfl (pgs_cons (pg_name (i := 4) scMachI.nd rfl (Or.inl rfl)) (pgs_cons (pg_name (i := 5) scMachI.nd rfl (Or.inl rfl)) pgs_nil)))
        (pss_one (ps_if (pt_not (pt_val (pe_call GS hr rfl (T.gl "is_step") kS bS .nil pass0 (pa_cons (pv 5) (pa_cons (pv 1) (pa_cons (pv 3) pa_nil)))))) (pss_one ps_never) pss_nil)))
      (pss_cons (ps_fld (pv 0) (pv 1) rfl)
      (pss_cons (ps_fld (pv 0) (pe_callTy call_tuple_of rfl (T.fr "tuple") (by decide +kernel) (pa_cons (pe_callB (cr_sortN rfl hr.units) rfl (T.fr "sorted") (by decide +kernel) (pa_cons
          (pe_dg (own := [("step", 5)]) (O0 := fun D => NdO P w D []) (P := PutN K P w) (g := gName 5) (tt := tYes) (tk := tVar 5) (tv := tC (.bl true)) rfl scMachI.nd (pi_list (pv 2)) (blkOk_by (N := NMI) (sc := defScope sMachineI) (by decide +kernel))
            (fun h H hb => ndO_ok (nd_empty h hb)) (fun s H ce fp => putN_ok hr.units) (fun _ _ _ _ _ => pg_name (i := 5) scMachI.nd rfl (Or.inl rfl)) (fun _ _ _ _ _ => pts_nil) (fun _ _ _ _ _ => pv 5) (fun _ _ _ _ _ => pe_bl)) pa_nil)) pa_nil)) rfl)
      (pss_cons (ps_fld (pv 0) (pe_dg (own := [("state", 6)]) (O0 := fun _ => .dK []) (P := PutKk) (g := gName 6) (tt := tYes) (tk := tVar 6) (tv := tLst tNil) rfl scMachI.nd (pi_range1 rfl (T.fr "range") (pa_cons (pv 1) pa_nil)) (blkOk_by (N := NMI) (sc := defScope sMachineI) (by decide +kernel))
            (fun h H hb => dk_empty h hb) (fun s H ce fp => putKk_ok) (fun _ _ _ _ _ => pg_name (i := 6) scMachI.nd rfl (Or.inl rfl)) (fun _ _ _ _ _ => pts_nil) (fun _ _ _ _ _ => pv 6) (fun _ _ _ _ _ => pe_lst pa_nil)) rfl)
      (pss_cons (ps_for PassesOwn.never rfl (pi_tup (pe_fld (pv 0) rfl)) (pg_name (i := 5) scMachI.nd rfl (Or.inl rfl))
        (pss_one (ps_expr (pe_bm PySem.F.plainAttrs_list PySem.F.slot_list_append PySem.F.type_list_append mt_append (pe_dget (room_1 hr) (pe_fld (pv 0) rfl) (pe_ix ix_tup (pv 5) pe_int (fun _ _ => rfl)) (fun _ _ => rfl)) (pa_cons (pv 5) pa_nil)))))
      (pss_cons (ps_fld (pv 0) (pe_callB (call_sortedD rfl) rfl (T.fr "sorted") (by decide +kernel) (pa_cons
          (pe_dg (own := [("step", 5)]) (O0 := fun _ => .dK []) (P := PutKk) (g := gName 5) (tt := tTest (tOp rNe (tOp (rIxT K) (tVar 5) (tC (.int 1))) (tC (.str "")))) (tk := tOp (rIxT K) (tVar 5) (tC (.int 1))) (tv := tC (.bl true)) rfl scMachI.nd (pi_tup (pe_fld (pv 0) rfl)) (blkOk_by (N := NMI) (sc := defScope sMachineI) (by decide +kernel))
            (fun h H hb => dk_empty h hb) (fun s H ce fp => putKk_ok) (fun _ _ _ _ _ => pg_name (i := 5) scMachI.nd rfl (Or.inl rfl)) (fun _ _ _ _ _ => pts_one (pt_cmpR op_ne (pe_ix ix_tup (pv 5) pe_int (fun _ _ => rfl)) pe_str (nomark _))) (fun _ _ _ _ _ => pe_ix ix_tup (pv 5) pe_int (fun _ _ => rfl)) (fun _ _ _ _ _ => pe_bl)) pa_nil)) rfl)
      (pss_one (ps_fld (pv 0) (pe_callB (call_sortedD rfl) rfl (T.fr "sorted") (by decide +kernel) (pa_cons
          (pe_dg (own := [("step", 5)]) (O0 := fun _ => .dK []) (P := PutKk) (g := gName 5) (tt := tTest (tOp rNe (tOp (rIxT K) (tVar 5) (tC (.int 2))) (tC (.str "")))) (tk := tOp (rIxT K) (tVar 5) (tC (.int 2))) (tv := tC (.bl true)) rfl scMachI.nd (pi_tup (pe_fld (pv 0) rfl)) (blkOk_by (N := NMI) (sc := defScope sMachineI) (by decide +kernel))
            (fun h H hb => dk_empty h hb) (fun s H ce fp => putKk_ok) (fun _ _ _ _ _ => pg_name (i := 5) scMachI.nd rfl (Or.inl rfl)) (fun _ _ _ _ _ => pts_one (pt_cmpR op_ne (pe_ix ix_tup (pv 5) pe_int (fun _ _ => rfl)) pe_str (nomark _))) (fun _ _ _ _ _ => pe_ix ix_tup (pv 5) pe_int (fun _ _ => rfl)) (fun _ _ _ _ _ => pe_bl)) pa_nil)) rfl))))))))), ?_⟩
    have cl := T.cl "Machine"
    have rf := R.few
    have rs := R.small
    have rp := R.pos
    have hyL : EvD K (tVar 2) (start NMI [.ref x, .int (n : Int), y]) Hs (.list (raw.map dStp)) := evd_var (i := 2) (v := y) rfl hy
    have n1 := evb_call1 (K := K) (E := E0) (f := isNum) (evd_var (i := 1) (v := .int (n : Int)) (σ := start NMI [.ref x, .int (n : Int), y]) (H := Hs) rfl (.int (n : Int)))
    have c1 := ev_chainB (r := rI0 fun i j => .bl (decide (i ≤ j))) (r' := rI0 fun i j => .bl (decide (i ≤ j))) (σ := start NMI [.ref x, .int (n : Int), y]) (H := Hs) (ev_c (v := .int 1)) (ev_var (i := 1) (v := .int (n : Int)) rfl) rv_I0 (fun _ => ev_c (v := .int 3000)) fun _ => rv_I0
    have b1 : (decide ((1 : Int) ≤ (n : Int)) && decide ((n : Int) ≤ 3000)) = true := by simp; omega
    rw [b1] at c1
    have t1 := et_or (et_not (et_B n1)) fun _ => et_or (et_not (et_test c1)) fun _ => et_not (et_B (ev_isiSeq hyL))
    refine y_if t1 eH (fun hb H1 e1 => absurd hb (by simp [isNum, isListT])) fun hb H1 e1 => ?_
    refine y_next ?_
    dsimp only
    -- known
    refine fun kn hkn => ⟨by rw [upd_same], [((Sum.inr "" : Key), V.bl true)], rfl, by decide, ?_⟩
    dsimp only
    have xk : kn ≠ x := fun z => by rw [z] at hkn; have := e1 _ _ hx; rw [this] at hkn; cases hkn
    have kn0 : H kn = none := fresh_back e1 hkn
    have f1 : Fw Hs H Hs (upd (upd H1 kn (.dK [])) kn (.dK (mergeK [] [((Sum.inr "" : Key), V.bl true)]))) := fw_skip eH (e1.trans (by
      intro b o hb
      have ne := ne_of_none hb hkn
      rw [upd_ne ne, upd_ne ne]
      exact hb))
    have hmk : mergeK [] [((Sum.inr "" : Key), V.bl true)] = [((Sum.inr "" : Key), V.bl true)] := by rfl
    refine y_for (wk_enumA raw dStp (j := 4) (k := 5) (ead_cons (evd_var (K := K) (i := 2) (σ := (start NMI [.ref x, .int (n : Int), y]).set 3 (some (.ref kn))) (v := y) rfl hy) ead_nil)) f1.c
      (fun i σ' Hs' H' => ∃ kvs a b, σ' = [some (.ref x), some (.int (n : Int)), some y, some (.ref kn), a, b, none] ∧ Fm Hs H Hs' H' ∧ Hs' kn = none ∧ H' kn = some (.dK kvs) ∧ (valV kvs (.inr "")).isSome = true ∧ kvs.length ≤ 1 + 2 * i ∧ (∀ b o, H b = some o → H' b = some o))
      (fun Hs2 H2 f2 => ⟨[((Sum.inr "" : Key), V.bl true)], none, none, rfl, f1.m.trans f2.m, f2.d _ _ upd_same (fresh_back eH kn0), f2.a _ _ (by rw [upd_same, hmk]), by decide, by decide, fun b o hb => f2.a _ _ (f1.a _ _ hb)⟩) (fun i σ' Hs' H' hi f iv σ4 Hs4 H4 f4 hS N hN => ?_) fun σ' Hs' H' f iv => ?_
    · obtain ⟨kvs, a, b, rfl, fm, hkn', hd, hkey, hlen, fr⟩ := iv
      obtain ⟨u, u', ⟨rfl, st, hst, hp⟩, rfl⟩ := hS
      have hd4 := f4.a _ _ hd
      have sok := R.ok st (List.mem_of_getElem? hst)
      have hil : i < raw.length := hi
      -- is_step, as a test
      refine ⟨u', rfl, .int (n : Int), rfl, .ref kn, rfl, Hs4, u', kn, n, st, kvs, rfl, f4.c, hp, sok, hd4, f4.d _ _ hd hkn', hkey, by omega, fun H5 kvs' m5 hd5 hk5 hl5 fr5 => ⟨true, rfl, ?_⟩⟩
      refine hN _ Hs4 H5 (f4.m.trans m5) ⟨kvs', _, _, rfl, fm.trans (f4.m.trans m5), f4.d _ _ hd hkn', hd5, hk5, by omega, fun b o hb => fr5 b o (ne_of_none hb kn0) (f4.a _ _ (fr b o hb))⟩
    · obtain ⟨kvs, a, b, rfl, fm, hkn', hd, hkey, hlen, fr⟩ := iv
      dsimp only
      have hx' := fr _ _ hx
      have nx' : Hs' x = none := fm.d _ _ hx hsx
      have I0 : Ini (He.ga K "Machine") dx x [] Hs H Hs' H' := ⟨fm, fun b o _ h => fr b o h, nx', hx'⟩
      have hy' : Dp K Hs' y (.list (raw.map dStp)) := dp_ex fm.b hy
      refine y_fld (P := fun v _ => v = .int (n : Int)) (evp_of (ev_var (i := 1) rfl) fun _ _ => rfl) fm.c rfl hx' cl (T.no "Machine" "many") (by decide) fun v1 Hs1 H1 f1 e1 => ?_
      subst e1
      have I1 := I0.fld f1 "many" (.int (n : Int))
      rw [mf1] at I1 ⊢
      dsimp only
      have sorted : EvD K (tCB (fun xs H Q => ∃ p ys, xs = [.ref p] ∧ ((SqL K H p ys ∧ ∀ l, H l = none → Q (.ref l) (upd H l (.tup ys))) ∨ (SqT K H p ys ∧ Q (.ref p) H))) (tCons (tCB (rSortN K P w) (tCons (tDg (fun D => NdO P w D []) (PutN K P w) (iList K (tVar 2)) (gName 5) tYes (tVar 5) (tC (.bl true)) [5]) tNil)) tNil)) [some (.ref x), some (.int (n : Int)), some y, some (.ref kn), a, b, none] Hs1 (.tuple ((sortS raw).map dStp)) := by
        have e1 : ((dd ((raw.filter fun _ => true).map id)).map kStp).map (·.data) = (dd raw).map dStp := by
          rw [List.filter_eq_self.mpr (fun _ _ => rfl), List.map_id, List.map_map]
          exact List.map_congr_left fun v _ => kStp_data v
        have key := evd_sortN (evp_dg (K := K) (P := P) (w := w) (σ := [some (.ref x), some (.int (n : Int)), some y, some (.ref kn), a, b, none]) (H := Hs1) (vs := [5]) (tk := tVar 5) (tv := tC (.bl true)) (tt := tYes) raw (fun _ => true) id kStp kStp_inj (fun b => ⟨_, rfl⟩) kStp_depth (wk_listA raw dStp (j := 5) (evd_var (i := 2) (v := y) rfl (dp_ex f1.b hy'))) (by omega) fun i o σ2 H' hi e hS => by
          obtain ⟨u, ⟨a1, e1, p1⟩, rfl⟩ := hS
          rw [hi] at e1
          cases e1
          exact ⟨rfl, et_yes, fun _ => ⟨by rw [kStp_data]; exact evd_var (i := 5) rfl p1, _, ev_c⟩⟩) (by rw [e1]; exact sok_S _)
        rw [e1, dSort_map] at key
        exact evd_tupleOf key
      refine y_fld sorted I1.fm.c rfl I1.hx cl (T.no "Machine" "steps") (by show 1 < 1000; decide) fun sv Hs2 H2 f2 hsv => ?_
      have I2 := I1.fld f2 "steps" sv
      rw [mf2] at I2 ⊢
      dsimp only
      -- ways
      refine y_fldT (wp_ways0 (K := K) (n := n) (j := 6) (σ := [some (.ref x), some (.int (n : Int)), some y, some (.ref kn), a, b, none]) (ea_cons (ev_var (i := 1) (v := .int (n : Int)) rfl) ea_nil) (by omega) (fun _ => rfl) (fun _ => rfl) fun D ls H3 hD hll hlnd hls ex3 hDD => ?_)
      have xD : D ≠ x := fun z => by rw [z, I2.hx] at hD; cases hD
      refine ⟨.ref x, rfl, x, _, dx, _, rfl, ex3 _ _ I2.hx, cl, T.no "Machine" "ways", by show 2 < 1000; decide, ?_⟩
      have I3 := (I2.fw (fw_skip I2.fm.c ex3)).put "ways" (.ref D)
      rw [mf3] at I3 ⊢
      dsimp only
      have xls : ∀ l ∈ ls, l ≠ x := fun l hl z => by have := (hls l hl).1; rw [z, I2.hx] at this; cases this
      obtain ⟨H4, eH4⟩ : ∃ H4, H4 = upd H3 x (.ins (He.ga K "Machine") dx (mF3 (.int (n : Int)) sv (.ref D))) := ⟨_, rfl⟩
      have hD4 : H4 D = some (.dK (mkW ls)) := by rw [eH4, upd_ne xD]; exact hDD
      have hls4 : ∀ l ∈ ls, H4 l = some (.lst []) := fun l hl => by rw [eH4, upd_ne (xls l hl)]; exact (hls l hl).2.2
      have D0 : H D = none := I2.fm.a D hD
      have ls0 : ∀ l ∈ ls, H l = none := fun l hl => I2.fm.a l (hls l hl).1
      have Ds2 : Hs2 D = none := fresh_back I2.fm.c hD
      have lss2 : ∀ l ∈ ls, Hs2 l = none := fun l hl => fresh_back I2.fm.c (hls l hl).1
      rw [← eH4] at I3 ⊢
      have eb : Ex Hs2 (upd Hs2 x (.ins (He.ga K "Machine") dx (mF3 (.int (n : Int)) sv (.ref D)))) := Ex.new I3.nx
      have b4 : Ex (upd Hs2 x (.ins (He.ga K "Machine") dx (mF3 (.int (n : Int)) sv (.ref D)))) H4 := fun b u hb => by
        by_cases q : b = x
        · subst q; rw [upd_same] at hb; rw [← hb]; exact I3.hx
        · rw [upd_ne q] at hb; exact I3.fm.c b u hb
      have stepsF : ∀ {fs : List (Str × V)} {Hz : Hp} {σ : L2.St}, fs.lookup ("steps" : Str) = some sv → σ[0]? = some (some (.ref x)) → Hz x = some (.ins (He.ga K "Machine") dx fs) → Dp K Hz sv (.tuple ((sortS raw).map dStp)) → EvD K (tFld K (tVar 0) "steps") σ Hz (.tuple ((sortS raw).map dStp)) := fun {fs Hz σ} hl hs hz hd => evd_of (ev_fld hs hz cl (T.no "Machine" "steps") hl) hd
      refine y_for (wk_tupA (sortS raw) dStp (j := 5) (stepsF (σ := [some (.ref x), some (.int (n : Int)), some y, some (.ref kn), a, b, none]) rfl rfl upd_same (dp_ex eb hsv))) b4
        (fun q σ' Hs' H' => ∃ z, σ' = [some (.ref x), some (.int (n : Int)), some y, some (.ref kn), a, z, none] ∧ Fm (upd Hs2 x (.ins (He.ga K "Machine") dx (mF3 (.int (n : Int)) sv (.ref D)))) H4 Hs' H' ∧ H' D = some (.dK (mkW ls)) ∧ Hs' D = none ∧ (∀ (i : Nat) (l : Addr), ls[i]? = some l → Hs' l = none ∧ ∃ xs, H' l = some (.lst xs) ∧ DpAll K Hs' xs ((((sortS raw).take q).filter fun s => decide (s.st = (i : Int))).map dStp)) ∧ (∀ b o, b ∉ ls → H4 b = some o → H' b = some o))
        (fun Hs5 H5 f5 => ⟨b, rfl, f5.m, f5.a _ _ hD4, f5.d _ _ hD4 (by rw [upd_ne xD]; exact Ds2), fun i l hl => ?_, fun b o _ hb => f5.a _ _ hb⟩) (fun q σ' Hs' H' hq f5 iv σ5 Hs5 H5 f5' hS N hN => ?_) fun σ' Hs' H' f5 iv => ?_
      · have hm := List.mem_of_getElem? hl
        exact ⟨f5.d _ _ (hls4 l hm) (by rw [upd_ne (xls l hm)]; exact lss2 l hm), [], f5.a _ _ (hls4 l hm), .nil⟩
      · obtain ⟨z, rfl, fm5, hDq, hDs, hlq, frq⟩ := iv
        obtain ⟨u, ⟨st, hst, hp⟩, rfl⟩ := hS
        have hsm := List.mem_of_getElem? hst
        obtain ⟨i, hi1, hi2⟩ := (R.ok st ((sortS_mem raw st).mp hsm)).st
        have hil : i < ls.length := by omega
        have hgl : ls[i]? = some ls[i] := List.getElem?_eq_getElem hil
        obtain ⟨ns, xs, hxs, hxd⟩ := hlq i ls[i] hgl
        have hx5 : Hs5 x = some (.ins (He.ga K "Machine") dx (mF3 (.int (n : Int)) sv (.ref D))) := f5'.b _ _ (fm5.b _ _ upd_same)
        have hxs5 := f5'.a _ _ hxs
        have ns5 := f5'.d _ _ hxs ns
        have xlen : xs.length < 100000 := by
          have h1 := dps_len hxd
          rw [List.length_map] at h1
          have h2 := List.length_filter_le (fun s : Stp => decide (s.st = (i : Int))) ((sortS raw).take q)
          have h3 : ((sortS raw).take q).length ≤ (sortS raw).length := by rw [List.length_take]; omega
          have h4 := sortS_len raw
          omega
        refine y_app (K := K) (l := ls[i]) (xs := xs) hxs5 f5'.c (fun H6 e6 Q0 q0 => ⟨.ref x, rfl, x, _, dx, _, _, rfl, e6 _ _ (f5'.c _ _ hx5), cl, T.no "Machine" "ways", rfl, ?_⟩) (evd_var (K := K) (i := 5) (v := u) rfl hp) xlen fun v Hs7 H7 f7 hv => ?_
        · refine ev_int (K := K) (evd_st (K := K) (evd_var (i := 5) (σ := [some (.ref x), some (.int (n : Int)), some y, some (.ref kn), a, some u, none]) (H := Hs5) (v := u) rfl hp)) H6 (f5'.c.trans e6) _ fun H8 e8 => ?_
          refine ⟨D, .ref ls[i], rfl, .inl ⟨mkW ls, .inl st.st, .inl (e8 _ _ (e6 _ _ (f5'.a _ _ hDq))), rfl, ?_⟩, q0 H8 e8⟩
          rw [hi1]
          exact (mkW_at ls hgl).symm
        · have ns7 := f7.d _ _ hxs5 ns5
          have mm : Fm Hs' H' Hs7 (upd H7 ls[i] (.lst (xs ++ [v]))) := f5'.m.trans (f7.m.trans (Fm.mut f7.c ns7))
          have Dl : D ≠ ls[i] := fun z => by rw [z, hxs] at hDq; cases hDq
          refine hN _ Hs7 _ mm ⟨some u, rfl, fm5.trans mm, by rw [upd_ne Dl]; exact f7.a _ _ (f5'.a _ _ hDq), f7.d _ _ (f5'.a _ _ hDq) (f5'.d _ _ hDq hDs), fun i' l' hl' => ?_, fun b' o hb' h => ?_⟩
          · obtain ⟨n1, ys, hy1, hy2⟩ := hlq i' l' hl'
            refine ⟨f7.d _ _ (f5'.a _ _ hy1) (f5'.d _ _ hy1 n1), ?_⟩
            by_cases qi : i' = i
            · subst qi
              rw [hgl] at hl'
              cases hl'
              rw [hxs] at hy1
              cases hy1
              refine ⟨xs ++ [v], upd_same, ?_⟩
              rw [List.take_add_one, hst]
              show DpAll K Hs7 (xs ++ [v]) ((((sortS raw).take q ++ [st]).filter fun s => decide (s.st = (i' : Int))).map dStp)
              rw [List.filter_append, List.filter_cons_of_pos (by simp [hi1]), List.filter_nil, List.map_append]
              exact dps_app (dps_ex (f5'.b.trans f7.b) hxd) (dps_one hv)
            · have ne : l' ≠ ls[i] := fun z => by
                rw [z] at hl'
                exact qi ((List.getElem?_inj (List.getElem?_eq_some_iff.mp hl').1 hlnd).mp (hl'.trans hgl.symm))
              refine ⟨ys, by rw [upd_ne ne]; exact f7.a _ _ (f5'.a _ _ hy1), ?_⟩
              rw [List.take_add_one, hst]
              show DpAll K Hs7 ys ((((sortS raw).take q ++ [st]).filter fun s => decide (s.st = (i' : Int))).map dStp)
              rw [List.filter_append, List.filter_cons_of_neg (by rw [hi1]; simp; omega), List.filter_nil, List.append_nil]
              exact dps_ex (f5'.b.trans f7.b) hy2
          · rw [upd_ne (fun z => hb' (by rw [z]; exact List.mem_of_getElem? hgl))]
            exact f7.a _ _ (f5'.a _ _ (frq b' o hb' h))
      · obtain ⟨z, rfl, fm5, hDq, hDs, hlq, frq⟩ := iv
        rw [List.take_length] at hlq
        dsimp only
        have nxD : x ≠ D := Ne.symm xD
        have nxl : x ∉ ls := fun z => xls x z rfl
        obtain ⟨Hf, eHf⟩ : ∃ Hf : Hp, Hf = fun b => if b = D ∨ b ∈ ls then H' b else if b = x then none else Hs' b := ⟨_, rfl⟩
        have hfD : Hf D = some (.dK (mkW ls)) := by rw [eHf]; dsimp only; rw [if_pos (Or.inl rfl)]; exact hDq
        have hfl : ∀ l ∈ ls, Hf l = H' l := fun l hl => by rw [eHf]; dsimp only; rw [if_pos (Or.inr hl)]
        have hfx : Hf x = none := by rw [eHf]; dsimp only; rw [if_neg (fun z => z.elim nxD nxl), if_pos rfl]
        have hfo : ∀ b, b ≠ D → b ∉ ls → b ≠ x → Hf b = Hs' b := fun b h1 h2 h3 => by rw [eHf]; dsimp only; rw [if_neg (fun z => z.elim h1 h2), if_neg h3]
        have ns' : ∀ l ∈ ls, Hs' l = none := fun l hl => by
          obtain ⟨i, hi⟩ := List.mem_iff_getElem?.mp hl
          exact (hlq i l hi).1
        have exf : Exd Hs' Hf := fun a' u ha' => by
          by_cases q : a' = x
          · subst q
            have := fm5.b _ _ upd_same
            rw [this] at ha'
            cases ha'
            exact .inr ⟨_, _, _, rfl⟩
          · exact .inl (by rw [hfo a' (ne_of_none ha' hDs) (fun z => by rw [ns' a' z] at ha'; cases ha') q]; exact ha')
        have cf : Ex Hf H' := fun b' u hb' => by
          by_cases q : b' = D
          · subst q; rw [hfD] at hb'; rw [← hb']; exact hDq
          · by_cases q2 : b' ∈ ls
            · rw [hfl b' q2] at hb'; exact hb'
            · by_cases q3 : b' = x
              · subst q3; rw [hfx] at hb'; cases hb'
              · rw [hfo b' q q2 q3] at hb'; exact fm5.c _ _ hb'
        have I4 : Ini (He.ga K "Machine") dx x (mF3 (.int (n : Int)) sv (.ref D)) Hs H Hf H' := by
          refine ⟨⟨fun y' h => I3.fm.a y' (fm5.a y' h), fun b' u hb' => ?_, cf, fun y' u hy1 hy2 => ?_⟩, fun b' u hb' h => frq b' u (fun z => by rw [ls0 b' z] at h; cases h) (I3.fr b' u hb' h), hfx, fm5.c _ _ (fm5.b _ _ upd_same)⟩
          · have h2 : Hs2 b' = some u := I3.fm.b _ _ hb'
            have h3 : Hs' b' = some u := fm5.b _ _ (eb _ _ h2)
            rw [hfo b' (ne_of_none h3 hDs) (fun z => by rw [ns' b' z] at h3; cases h3) (ne_of_none hb' hsx)]
            exact h3
          · by_cases q3 : y' = x
            · subst q3; exact hfx
            · rw [hfo y' (ne_of_none hy1 D0) (fun z => by rw [ls0 y' z] at hy1; cases hy1) q3]
              exact fm5.d y' u (I3.fr y' u q3 hy1) (by rw [upd_ne q3]; exact I3.fm.d y' u hy1 hy2)
        have svf : Dp K Hf sv (.tuple ((sortS raw).map dStp)) := dp_exd exf (dp_ex (eb.trans fm5.b) hsv)
        have ssl := sortS_len raw
        -- kinds, words
        have strF : ∀ (fs : List (Str × V)) (Ha : Hp) (i : Nat) (f : Stp → Str) (σ : L2.St), fs.lookup ("steps" : Str) = some sv → σ[0]? = some (some (.ref x)) → (∀ u, wipe ((wipe σ [5]).set 5 (some u)) [5] = wipe σ [5]) → (∀ u, ((wipe σ [5]).set 5 (some u))[5]? = some (some u)) →
            (∀ {σ : L2.St} {H0 : Hp} {s : Stp} {te : TE}, EvD K te σ H0 (dStp s) → EvD K (tOp (rIxT K) te (tC (.int (i : Int)))) σ H0 (.str (f s))) → Ha x = some (.ins (He.ga K "Machine") dx fs) → Dp K Ha sv (.tuple ((sortS raw).map dStp)) →
            EvP (tCB rSortSt (tCons (tDg (fun _ => .dK []) PutKk (iTup K (tFld K (tVar 0) "steps")) (gName 5) (tTest (tOp rNe (tOp (rIxT K) (tVar 5) (tC (.int (i : Int)))) (tC (.str "")))) (tOp (rIxT K) (tVar 5) (tC (.int (i : Int)))) (tC (.bl true)) [5]) tNil)) σ Ha (fun v H2 => ∃ ys : List Str, ys.Perm (dd (((sortS raw).filter fun s => decide (f s ≠ ("" : Str))).map f)) ∧ Dp K H2 v (.list (ys.map .str))) := by
          intro fs Ha i f σ hl hs hw1 hw2 hix hxa hda
          refine evp_sortSt (evp_dk (K := K) (vs := [5]) (sortS raw) (fun s => decide (f s ≠ ("" : Str))) (fun s => Sum.inr (f s)) (fun _ => .bool true) (wk_tupA (sortS raw) dStp (j := 5) (stepsF hl hs hxa hda)) (by omega) fun q s σ2 H2 hq ex hS => ?_) ?_ ?_
          · obtain ⟨u, ⟨a1, e1, p1⟩, rfl⟩ := hS
            rw [hq] at e1
            cases e1
            have sv5 : EvD K (tVar 5) ((wipe σ [5]).set 5 (some u)) H2 (dStp s) := evd_var (hw2 u) p1
            refine ⟨hw1 u, et_test ?_, fun _ => ⟨ev_str (hix sv5), evd_c (.bl true)⟩⟩
            have := ev_op (ev_str (hix sv5)) (ev_c (v := .str "")) (rv_ne (H := H2) (x := .str (f s)) (y := .str "") rfl)
            have e : (!decide (V.str (f s) = V.str "")) = decide (f s ≠ ("" : Str)) := by
              by_cases z : f s = ("" : Str)
              · rw [z]; simp
              · have : ¬ V.str (f s) = V.str "" := fun z' => z (by injection z')
                simp [z, this]
            rw [e] at this
            exact this
          · rw [putAll_keys]
            have e : (((sortS raw).filter fun s => decide (f s ≠ ("" : Str))).map fun s => (Sum.inr (f s) : Key)) = (((sortS raw).filter fun s => decide (f s ≠ ("" : Str))).map f).map Sum.inr := by rw [List.map_map]; rfl
            rw [e, dd_map _ (fun a b h => Sum.inr.inj h)]
          · have h1 := dd_len (((sortS raw).filter fun s => decide (f s ≠ ("" : Str))).map f)
            rw [List.length_map] at h1
            have h2 := List.length_filter_le (fun s => decide (f s ≠ ("" : Str))) (sortS raw)
            omega
        refine y_fldT (evp_withX I4.hx I4.nx I4.fm.c (strF (mF3 (.int (n : Int)) sv (.ref D)) _ 1 Stp.ki [some (.ref x), some (.int (n : Int)), some y, some (.ref kn), a, z, none] rfl rfl (fun _ => rfl) (fun _ => rfl) (fun h => evd_ki h) upd_same (dp_ex (Ex.new I4.nx) svf)) fun v8 Hs8 H8 f8 ⟨Hs8', ⟨ys, hperm, hd8⟩, exd8⟩ => ?_)
        refine ⟨.ref x, rfl, x, _, dx, _, rfl, f8.a _ _ I4.hx, cl, T.no "Machine" "kinds", by show 3 < 1000; decide, ?_⟩
        have I5 := I4.fld f8 "kinds" v8
        rw [mf4] at I5 ⊢
        dsimp only
        have hk8 : Dp K Hs8 v8 (.list (ys.map .str)) := dp_exd exd8 hd8
        refine y_fldT (evp_withX I5.hx I5.nx I5.fm.c (strF (mF4 (.int (n : Int)) sv (.ref D) v8) _ 2 Stp.se [some (.ref x), some (.int (n : Int)), some y, some (.ref kn), a, z, none] rfl rfl (fun _ => rfl) (fun _ => rfl) (fun h => evd_se h) upd_same (dp_ex (f8.b.trans (Ex.new I5.nx)) svf)) fun v9 Hs9 H9 f9 _ => ?_)
        refine ⟨.ref x, rfl, x, _, dx, _, rfl, f9.a _ _ I5.hx, cl, T.no "Machine" "words", by show 4 < 1000; decide, ?_⟩
        have I6 := I5.fld f9 "words" v9
        rw [mf5] at I6 ⊢
        have exf9 : Ex Hf Hs9 := f8.b.trans f9.b
        have kis : kindsIs raw ys := by
          refine ⟨hperm.nodup_iff.mpr (dd_nodup _), fun k => ?_⟩
          rw [hperm.mem_iff, dd_mem, List.mem_map]
          constructor
          · rintro ⟨s, hs, rfl⟩
            obtain ⟨h1, h2⟩ := List.mem_filter.mp hs
            exact ⟨by simpa using h2, s, (sortS_mem raw s).mp h1, rfl⟩
          · rintro ⟨h1, s, hs, rfl⟩
            exact ⟨s, List.mem_filter.mpr ⟨(sortS_mem raw s).mpr hs, by simpa using h1⟩, rfl⟩
        have hok : ∀ k ∈ ys, PyData.strOk k = true := fun k hk => by
          obtain ⟨_, s, hs, rfl⟩ := (kis.2 k).mp hk
          exact (R.ok s hs).good.ki
        refine kQ Hs9 _ _ I6.fm I6.hx I6.fr (hF _ _ ys hok kis ⟨sv, v8, D, mkW ls, rfl, ⟨rfl, dp_ex exf9 svf⟩, ⟨rfl, dp_ex f9.b hk8⟩, rfl, .inl (exf9 _ _ hfD), entD_ex exf9 ?_⟩)
        refine paired_mk ?_ fun i p e hp he => ?_
        · unfold mkW waysD
          rw [List.length_map, List.length_zipIdx, List.length_map, List.length_range, hll]
          rfl
        · unfold mkW at hp
          rw [List.getElem?_map, List.getElem?_zipIdx] at hp
          cases g : ls[i]? with
          | none => rw [g] at hp; cases hp
          | some l =>
            rw [g] at hp
            cases hp
            have il : i < n := by have := (List.getElem?_eq_some_iff.mp g).1; omega
            unfold waysD at he
            rw [List.getElem?_map, List.getElem?_range (show i < (macOf n raw R ys hok).many from il)] at he
            cases he
            obtain ⟨_, xs, hx1, hx2⟩ := hlq i l g
            refine ⟨by simp, .lst (sq_of (by rw [hfl l (List.mem_of_getElem? g)]; exact hx1)) (dps_exd exf hx2)⟩
end
end K02
set_option Elab.async false
set_option linter.all false
set_option maxRecDepth 100000
set_option maxHeartbeats 1000000
/-! ### Tabled.__init__, and Least.__init__ that calls it -/
namespace K02
open PySem PySem.Spec PyProof.Rows L2 Evl
/-- the table of a Tabled on an instance of Least -/
def rTabI (K : PySem.W.Frag) : List V → Hp → (List (Str × V) → Hp → Prop) → Prop := fun rest Hs Fin => ∃ (c : V) (cs : List (Int × List Vec)), rest = [c] ∧ DictX K (costsD cs) c Hs ∧ (cs.map (·.1)).Nodup ∧ cs.length ≤ 1000 ∧
  ∀ (fs : List (Str × V)) H2, (∃ c, fs = [(("costs" : Str), c)] ∧ DictX K (costsD cs) c H2) → Fin fs H2
section
variable {P : Program} {w : World} {K : PySem.W.Frag} {mg : Str → Option Value} {base : Heap} {σ : L2.St} {H : Hp} {te : TE}
theorem evp_lockD {ents : List (Int × PyData)} {d : Addr} {kvs : List (Key × V)} (hd : H d = some (.dK kvs)) (h : ∀ od, EvP te σ (upd H d (.frz od (.dK kvs))) (DictX K ents)) : EvP (tLockE te) σ H (DictX K ents) := fun Hs H1 a b Q q => by
  have h1 : Hs d = some (.dK kvs) := a _ _ hd
  have h2 : H1 d = some (.dK kvs) := b _ _ h1
  refine ⟨d, .dK kvs, h2, trivial, fun od => h od (upd Hs d (.frz od (.dK kvs))) (upd H1 d (.frz od (.dK kvs))) (ex_frz a) (ex_frz b) _ fun v Hs2 H2 f p => ?_⟩
  have fd : Hs2 d = some (.frz od (.dK kvs)) := f.b _ _ upd_same
  refine ⟨f.a _ _ upd_same, q v (upd Hs2 d (.dK kvs)) (upd H2 d (.dK kvs)) ⟨ex_back h2 f.a, ex_back h1 f.b, ex_frz f.c, fun x o hx n => ?_⟩ ?_⟩
  · have ne : x ≠ d := fun z => by rw [z, h1] at n; cases n
    rw [upd_ne ne]
    exact f.d x o (by rw [upd_ne ne]; exact hx) (by rw [upd_ne ne]; exact n)
  · obtain ⟨d2, kvs2, rfl, p1, p2⟩ := p
    have ne : d2 ≠ d := fun z => by rw [z, fd] at p1; cases p1
    exact ⟨d2, kvs2, rfl, by rw [upd_ne ne]; exact p1, entD_er (er_free fd) p2⟩
abbrev NTI : List Str := ["self", "costs", "state", "held"]
theorem scTabI : FnScope NTI ["self", "costs"] (defScope sTabledI) := ⟨rfl, rfl, rfl, by decide +kernel, rfl, by decide +kernel, by decide +kernel⟩
theorem ok_tabI (T : G K mg) : Ok P w K mg base CX0 1 (He.ma K (He.ga K "Tabled") "__init__") ["self", "costs"] (spInit (He.ga K "Least") (rTabI K)) := by
  obtain ⟨fd, F⟩ := T.funM 2
  refine ok_of F scTabI (fun vs H Q E h => ?_) (fun _ _ _ _ _ _ us hl => match us, hl with | [_, _], _ => rfl) fun cdv A outer s H vs Q E hr h => ?_
  · obtain ⟨_, _, _, _, _, rfl, _, _, _, ⟨_, _, rfl, _⟩, _⟩ := h
    rfl
  · obtain ⟨Hs, x, dx, rest, Fin, rfl, hx, hsx, eH, ⟨c, cs, rfl, ⟨d, kvs, rfl, hd, hk⟩, hn, hl, hF⟩, kQ⟩ := h
    refine ⟨_, pss_one (ps_fld (pv 0) (pe_lock (pe_dg (own := [("state", 2), ("held", 3)]) (O0 := fun _ => .dK []) (P := PutKk) (g := g2 K 2 3) (tt := tYes) (tk := tVar 2) (tv := tCB (fun xs H Q => ∃ p ys, xs = [.ref p] ∧ (SqL K H p ys ∨ SqT K H p ys) ∧ ∀ l, H l = none → Q (.ref l) (upd H l (.lst ys))) (tCons (tVar 3) tNil)) rfl scTabI.nd (pi_items (pv 1)) (blkOk_by (N := NTI) (sc := defScope sTabledI) (by decide +kernel))
      (fun h H hb => dk_empty h hb) (fun s H ce fp => putKk_ok) (fun _ _ _ _ _ => pg_tup rfl (pgs_cons (pg_name (i := 2) scTabI.nd rfl (Or.inl rfl)) (pgs_cons (pg_name (i := 3) scTabI.nd rfl (Or.inl rfl)) pgs_nil))) (fun _ _ _ _ _ => pts_nil) (fun _ _ _ _ _ => pv 2) (fun _ _ _ _ _ => pe_callTy call_list_of rfl (T.fr "list") (by decide +kernel) (pa_cons (pv 3) pa_nil)))) rfl), ?_⟩
    have key := evp_lockD (K := K) (ents := costsD cs) (σ := start NTI [.ref x, .ref d]) (te := tDg (fun _ => .dK []) PutKk (iItems (tVar 1)) (g2 K 2 3) tYes (tVar 2) (tCB (fun xs H Q => ∃ p ys, xs = [.ref p] ∧ (SqL K H p ys ∨ SqT K H p ys) ∧ ∀ l, H l = none → Q (.ref l) (upd H l (.lst ys))) (tCons (tVar 3) tNil)) [2, 3]) hd fun od => by
      have frz : EvP (tVar 1) (start NTI [.ref x, .ref d]) (upd Hs d (.frz od (.dK kvs))) (FrzAt K (costsD cs)) :=
        evp_of (ev_var (i := 1) (v := .ref d) rfl) fun Hs' e => ⟨d, od, kvs, rfl, e _ _ upd_same, entD_ex e (entD_er (er_frz hd) hk)⟩
      have key := evp_dk (K := K) (H := upd Hs d (.frz od (.dK kvs))) (vs := [2, 3]) (tk := tVar 2) (tv := tCB (fun xs H Q => ∃ p ys, xs = [.ref p] ∧ (SqL K H p ys ∨ SqT K H p ys) ∧ ∀ l, H l = none → Q (.ref l) (upd H l (.lst ys))) (tCons (tVar 3) tNil)) (tt := tYes) cs (fun _ => true) (fun e => Sum.inl e.1) (fun e => PyData.list (e.2.map dV))
        ((wk_items (j := 2) (k := 3) frz).cast (by unfold costsD; rw [List.length_map])) (by omega) fun i e σ2 H' hi ex hS => by
          obtain ⟨u, u', ⟨ed, hed, rfl, hpd⟩, rfl⟩ := hS
          obtain rfl : ed = (e.1, PyData.list (e.2.map dV)) := by
            unfold costsD at hed
            rw [List.getElem?_map, hi] at hed
            exact (Option.some.inj hed).symm
          exact ⟨rfl, et_yes, fun _ => ⟨ev_var rfl, evd_listOf (t := false) (evd_var (i := 3) (v := u') rfl hpd)⟩⟩
      rw [List.filter_eq_self.mpr (fun _ _ => rfl), putAll_nodup _ _ _ (by
        rw [show (fun e : Int × List Vec => (Sum.inl e.1 : Key)) = Sum.inl ∘ (·.1) from rfl, ← List.map_map]
        exact List.Pairwise.map _ (fun a b h z => h (Sum.inl.inj z)) hn)] at key
      refine key.imp fun v H2 _ p => DkAt.int ?_
      have e : (costsD cs).map (fun e => ((Sum.inl e.1 : Key), e.2)) = cs.map (fun e => ((Sum.inl e.1 : Key), PyData.list (e.2.map dV))) := by
        unfold costsD
        rw [List.map_map]
        rfl
      rw [e]
      exact p
    refine y_fld key eH rfl hx (T.cl "Least") (T.no "Least" "costs") (by decide) fun v Hs1 H1 f1 hv => ?_
    have n1 := f1.d x _ hx hsx
    exact kQ Hs1 _ _ (f1.m.trans (Fm.mut f1.c n1)) upd_same (fun b o hb h => by rw [upd_ne hb]; exact f1.a b o h) (hF _ _ ⟨v, rfl, hv⟩)
end
end K02
set_option Elab.async false
set_option linter.all false
set_option maxRecDepth 100000
set_option maxHeartbeats 2000000
/-! ### Least.__init__: super().__init__(costs), then two fields -/
namespace K02
open PySem PySem.Spec PyProof.Rows L2 Evl NdefX
/-- what the head tells of Least.__init__ and of Tabled above it -/
structure SupF (P : Program) (K : PySem.W.Frag) : Prop where
  ex : ∃ (od : Option Addr) (doc pm : Value) (an : Option Addr) (cda : Addr) (ct : Value) (cc : Addr) (sl : Array (Option Value)) (oc : Value),
    K.lookup (He.ma K (He.ga K "Least") "__init__") = some ⟨oc, od, .func (PySem.W.ksFn "__init__" "Least.__init__" (defArgs sLeastI) (defBody sLeastI) (defScope sLeastI) .none .none doc pm an (.ref cda) ct cc), sl⟩ ∧
    PySem.W.codeIn K (.ref cda) "Least.__init__" = true ∧
    (∃ (ccl : Value) (cdd : Option Addr) (vs : Array Value) (ccs : Array (Option Value)) (file : Str) (tf : Tok), K.lookup cda = some ⟨ccl, cdd, .fields vs, ccs⟩ ∧ vs[2]? = some (.str file tf) ∧ ((P.main.file : Str) == file) = true) ∧
    ∃ (cl : Value) (cld : Option Addr) (csl : Array (Option Value)), K.lookup cc = some ⟨cl, cld, .cell (some (.ref (He.ga K "Least"))), csl⟩
  kp : PySem.W.keepIn K (.ref (He.ma K (He.ga K "Least") "__init__")) = true
  cd : ∃ cd, PySem.W.clsIn K (He.ga K "Least") = some cd
  sub : PySem.W.mroIn K (He.ga K "Least") (.ref (He.ga K "Least")) = some true
  any : PySem.W.nsIn K cStatics "thirdparty.any" = some none
  sup : PySem.W.ks_superIn K (He.ga K "Least") (He.ga K "Least") "__init__" = some (some (.ref (He.ma K (He.ga K "Tabled") "__init__")))
  ty : PySem.W.typeIn K (.ref (He.ma K (He.ga K "Tabled") "__init__")) = some (.type "function")
  fi : PySem.W.fnIn K (He.ma K (He.ga K "Tabled") "__init__") = true
  top : (P.main.scope.names.lookup ("super" : Str)).isSome = false
abbrev NLN : List Str := ["self", "vectors", "runs", "costs", "__class__", "run"]
theorem scLeastI : NScope NLN ["self", "vectors", "runs", "costs"] ["__class__"] (defScope sLeastI) := nscope_by (by decide +kernel)
section
variable {P : Program} {w : World} {K : PySem.W.Frag} {mg : Str → Option Value} {base : Heap}
/-- what is left behind super().__init__ -/
def iSqB (K : PySem.W.Frag) (t : Bool) (tl : TE) : TI := match t with
  | true => iTup K tl
  | false => iList K tl
theorem pi_sqB {X : Cx} {tg l : Expr} {tl : TE} (t : Bool) (hl : PE X l tl) : PI X tg l (iSqB X.K t tl) := match t with
  | true => pi_tup hl
  | false => pi_list hl
theorem wk_sqA {σ : L2.St} {H : Hp} {tl : TE} {α : Type} (t : Bool) (as : List α) (ea : α → PyData) {j : Nat} (h : EvD K tl σ H (dSeq t (as.map ea))) : Wk (iSqB K t tl) (gName j) σ H as.length (S1 j fun i v H2 => ∃ a, as[i]? = some a ∧ Dp K H2 v (ea a)) := match t, h with
  | true, h => wk_tupA as ea h
  | false, h => wk_listA as ea h
abbrev rListOf (K : PySem.W.Frag) : List V → Hp → VK → Prop := fun xs H Q => ∃ p ys, xs = [.ref p] ∧ (SqL K H p ys ∨ SqT K H p ys) ∧ ∀ l, H l = none → Q (.ref l) (upd H l (.lst ys))
theorem rest_ps (T : G K mg) {F : NF} {f : Addr} {A : Around} {outer : List Env} {s : Shared} {H : Hp} {E : XK} (hF : F.scope = defScope sLeastI) (hh : A.handled = none) (t : Bool) : PSs (ncx CX0 P w K mg base NLN F f A outer s H E) (defBody sLeastI).tail
    (tSeq (sFld K (tVar 0) (tCB (rListOf K) (tCons (tVar 1) tNil)) "vectors") (tSeq (sFld K (tVar 0) (tLc (iSqB K t (tVar 2)) (gName 5) tYes (tCB (rListOf K) (tCons (tVar 5) tNil)) [5]) "runs") tNext)) := by
  obtain ⟨nm, qu, pa, bo, sc, cl, c⟩ := F
  subst hF
  exact pss_cons (ps_fld (pv 0) (pe_callTy call_list_of rfl (T.fr "list") (by decide +kernel) (pa_cons (pv 1) pa_nil)) rfl)
    (pss_cons (ps_fld (pv 0) (pe_lc (own := [("run", 5)]) rfl scLeastI.nd (pi_sqB t (pv 2)) (blkOk_by (N := NLN) (sc := defScope sLeastI) (by decide +kernel))
      (fun _ _ _ _ _ => pg_name (i := 5) scLeastI.nd rfl (Or.inl rfl)) (fun _ _ _ _ _ => pts_nil) (fun _ _ _ _ _ => pe_callTy call_list_of rfl (T.fr "list") (by decide +kernel) (pa_cons (pv 5) pa_nil))) rfl) pss_nil)
theorem ok_leastI (T : G K mg) (S : SupF P K) : OkLI P w K mg base := by
  obtain ⟨od, doc, pm, an, cda, ct, cc, sl, oc, lk, hcd, ⟨ccl, cdd, vs2, ccs, file, tf, lc, hv2, hfile⟩, cl, cld, csl, lcell⟩ := S.ex
  obtain ⟨fdT, FT, bT, kpT⟩ := ok_tabI (P := P) (w := w) (base := base) T
  have FR := FT.raw bT (.nil)
  refine ⟨_, ⟨fun vs H Q E h => ?_, fun A outer s H args us vs Q E hr e0 hb hv hs => ?_⟩, .all (fd := PySem.W.ksFn "__init__" "Least.__init__" (defArgs sLeastI) (defBody sLeastI) (defScope sLeastI) .none .none doc pm an (.ref cda) ct cc) (fun us hl => match us, hl with | [_, _, _, _], _ => rfl), S.kp⟩
  · obtain ⟨_, _, _, _, _, rfl, _, _, _, ⟨_, _, _, _, _, _, _, _, rfl, _⟩, _⟩ := h
    rfl
  · obtain ⟨Hs, x, dx, rest, Fin, rfl, hx, hsx, eH, ⟨v, r, c, tv, tr, vs, rs, cs, rfl, hv1, hr1, hc1, hnd, l1, l2, l3, l4, l5, hF⟩, kQ⟩ := hs
    have KX : K.In s.heap := e0.mod.kin.keeps fun b o e => (e0.bs b o e).1
    have lim : s.heap.NoLimit := e0.mod.nolimit.keeps fun b o e => (e0.bs b o e).1
    obtain ⟨u0, us, rfl, ru0, hv'⟩ := (show ∃ u0 us', us = u0 :: us' ∧ RelV (.ref x) u0 ∧ Vals [v, r, c] us' from by cases hv with | cons a b => exact ⟨_, _, rfl, a, b⟩)
    obtain rfl : u0 = Value.ref x := ru0
    have hvals : Vals [.ref x, v, r, c] (Value.ref x :: us) := .cons rfl hv'
    let F : NF := ⟨"__init__", "Least.__init__", defArgs sLeastI, defBody sLeastI, defScope sLeastI, [("__class__", cc)], cda⟩
    have C : CellsAt F.cl ["__class__"] [some (.ref (He.ga K "Least"))] s.heap H := by
      have bc := e0.bs _ _ (e0.mod.kin _ _ lcell)
      refine ⟨rfl, fun y d h => ?_, fun a b d h1 h2 => ?_, fun i y h => ?_⟩
      · have h : List.lookup y [(("__class__" : Str), cc)] = some d := h
        have hd : d = cc := by
          have := PySem.mem_of_lookup h
          simpa using (List.mem_singleton.mp this : (y, d) = (_, cc)) |> fun z => (Prod.mk.inj z).2
        subst hd
        exact ⟨bc.2, _, _, bc.1, rfl⟩
      · have e1 := (Prod.mk.inj (List.mem_singleton.mp (PySem.mem_of_lookup h1))).1
        have e2 := (Prod.mk.inj (List.mem_singleton.mp (PySem.mem_of_lookup h2))).1
        rw [e1, e2]
      · cases i with
        | zero =>
          have : y = "__class__" := by simpa using h.symm
          subst this
          exact ⟨cc, rfl, fun v hv => by
            have hv : v = V.ref (He.ga K "Least") := by simpa using hv.symm
            subst hv
            exact ⟨Value.ref (He.ga K "Least"), rfl, _, bc.1, rfl⟩⟩
        | succ i => simp at h
    refine PySem.ks_codeAny_call_defAt (fd := PySem.W.ksFn "__init__" "Least.__init__" (defArgs sLeastI) (defBody sLeastI) (defScope sLeastI) .none .none doc pm an (.ref cda) ct cc) (body := defBody sLeastI) hr.depth (KX _ _ lk) rfl lim (PySem.W.codeRec_of KX hcd) rfl hb scLeastI.nocell (fun y hy => scLeastI.par y.1 (List.of_mem_zip hy).1) (fun h₁ hns kp => ?_) rfl rfl rfl
    have I0 : Inv (ncx CX0 P w K mg base NLN F (He.ma K (He.ga K "Least") "__init__") A outer s H E) [] (startF NLN [.ref x, v, r, c] [some (.ref (He.ga K "Least"))]) H { s with heap := h₁, toks := s.toks + ([("self" : Str), "vectors", "runs", "costs"].zip (Value.ref x :: us)).length } := inv_startN scLeastI hr.hd e0 rfl hvals C hns kp
    obtain ⟨cd, hcd2⟩ := S.cd
    obtain ⟨oD, hD1, hD2⟩ : ∃ oD, h₁.get? (He.ga K "Least") = some oD ∧ oD.data = .cls cd := by
      have h := hcd2
      unfold PySem.W.clsIn at h
      split at h
      · rename_i c d cd' sl ho
        cases h
        exact ⟨_, kp _ _ (KX _ _ ho), rfl⟩
      · cases h
    obtain ⟨mb, hmb, hbb⟩ := e0.mod.blt
    have bk : ∀ b o, base.get? b = some o → h₁.get? b = some o := fun b o e => kp _ _ (e0.bs b o e).1
    have KX1 : K.In h₁ := KX.keeps kp
    obtain ⟨mA, OM, _, _, _, _⟩ := ins_get I0.hok hx
    have hxo : h₁.get? x = some (PySem.W.instObj (He.ga K "Least") dx) := OM.obj
    generalize htk : s.toks + ([("self" : Str), "vectors", "runs", "costs"].zip (Value.ref x :: us)).length = tk at I0 ⊢
    refine PySem.ks_wpAt_execs_cons (PySem.ks_wpAt_Expr_any (PySem.ks_wpAt_MethodCall (pl := ?_) (PySem.ks_wpAt_super_base (env := envF F (He.ma K (He.ga K "Least") "__init__") s.heap.objs.size) rfl rfl rfl rfl (kp _ _ (KX _ _ lk)) rfl rfl rfl (kp _ _ (KX _ _ lc)) rfl hv2 hfile S.top ?_)))
    refine PySem.W.ks_loadName_global rfl rfl (PySem.Calls.loadGlobal_builtin (env := envF F (He.ma K (He.ga K "Least") "__init__") s.heap.objs.size) (e0.mod.glob.keeps bk) (T.fr "super") (hmb.keeps bk) ((hbb _ (by decide +kernel)).trans (by rfl)) ⟨rfl, ?_⟩)
    refine wpAny_loadName_free rfl rfl rfl ⟨_, kp _ _ (KX _ _ lcell), rfl⟩ ?_
    refine wpAny_loadName_local (v := Value.ref x) rfl rfl hns (zip_look (i := 0) (by decide +kernel) rfl rfl) ?_
    refine PySem.ks_wpAny_isType_cls hD1 hD2 ⟨rfl, ?_⟩
    refine PySem.ks_wpAny_call_super hD1 hD2 hxo rfl (fun c e => by cases e) (PySem.W.looks_mroIn KX1 S.sub) (fun h' e k => ?_)
    have KX2 : K.In h' := KX1.keeps k
    have I1 := I0.kept (h' := h') (t' := tk) k
    have hxK : x ≠ He.ga K "Least" := fun z => by
      rw [z, hD1] at hxo
      rw [Option.some.inj hxo] at hD2
      cases hD2
    obtain ⟨of, hof, hofc⟩ : ∃ of, h'.get? (He.ma K (He.ga K "Tabled") "__init__") = some of ∧ of.cls = .type "function" := by
      have ht' : (K.lookup (He.ma K (He.ga K "Tabled") "__init__")).map (·.cls) = some (.type "function") := S.ty
      cases z : K.lookup (He.ma K (He.ga K "Tabled") "__init__") with
      | none => rw [z] at ht'; cases ht'
      | some of => rw [z] at ht'; exact ⟨of, KX2 _ _ z, Option.some.inj ht'⟩
    have hm := S.sup
    unfold PySem.W.ks_superIn at hm
    rw [hcd2] at hm
    refine PySem.ks_wpAny_getMethod_super (so := h₁.objs.size) (l₀ := cd.mro) e (PySem.W.looks_opaque KX2 S.any) (fun A Q E s k q => wpAny_bind ((PySem.W.looks_clsIn KX2 hcd2) A _ E s k (wpAny_pure q))) rfl KX2 hm hof hofc hxK rfl ?_
    have hq : H h'.objs.size = none := I1.hok.fresh (Nat.le_refl _)
    have I2 := I1.laid (t' := tk + 1) (a := h'.objs.size) (o := .met (He.ma K (He.ga K "Tabled") "__init__") x) (fun b u z => Heap.get?_push_of_some _ z) (Nat.le_refl _)
      (show (h'.push (PySem.W.methodObj (.ref (He.ma K (He.ga K "Tabled") "__init__")) (.ref x))).get? h'.objs.size = some (PySem.W.methodObj (.ref (He.ma K (He.ga K "Tabled") "__init__")) (.ref x)) from Heap.get?_push_size h' rfl)
    subst htk
    have nqx : h'.objs.size ≠ x := fun z => by rw [z, hx] at hq; cases hq
    refine callwith_met (X := ncx CX0 P w K mg base NLN F (He.ma K (He.ga K "Least") "__init__") A outer s H E) (a := x) (g := He.ma K (He.ga K "Tabled") "__init__") (q := h'.objs.size) rfl S.fi (PySem.Calls.evalArgs_plain ?_)
    have hr2 : Room 2 (ncx CX0 P w K mg base NLN F (He.ma K (He.ga K "Least") "__init__") A outer s H E).A := hr.deeper _
    have pa1 (p : Pos) : PA (ncx CX0 P w K mg base NLN F (He.ma K (He.ga K "Least") "__init__") A outer s H E) [.Name "costs" p] (tCons (tVar 3) tNil) := pa_cons (pv 3) pa_nil
    refine thn ((pa1 _).run _ [] _ (startF NLN [.ref x, v, r, c] [some (.ref (He.ga K "Least"))]) _ (fun vs H' => vs = [c] ∧ H' = upd H h'.objs.size (.met (He.ma K (He.ga K "Tabled") "__init__") x)) I2 ⟨c, rfl, rfl, rfl⟩) fun us3 s3 h3 => ?_
    obtain ⟨vs3, H3, I3, r3, rfl, rfl⟩ := h3
    have hr1' : Room 1 (ncx CX0 P w K mg base NLN F (He.ma K (He.ga K "Least") "__init__") A outer s H E).A := hr2.mono (by decide)
    refine ⟨met_P I3 upd_same, thn (wpAny_call (PySem.W.method_call (met_P I3 upd_same).1 (run_fnR (E := E) (vs := [.ref x, c]) (Q := fun v H4 => ∃ Hs4 fs, Fm Hs (upd H h'.objs.size (.met (He.ma K (He.ga K "Tabled") "__init__") x)) Hs4 H4 ∧ H4 x = some (.ins (He.ga K "Least") dx fs) ∧ (∀ b o, b ≠ x → upd H h'.objs.size (.met (He.ma K (He.ga K "Tabled") "__init__") x) b = some o → H4 b = some o) ∧ ∃ c, fs = [(("costs" : Str), c)] ∧ DictX K (costsD cs) c Hs4) FR hr1' pass0 I3 (.cons rfl r3) ?_))) fun u s4 h4 => ?_⟩
    · exact ⟨Hs, x, dx, [c], fun fs H2 => ∃ c, fs = [(("costs" : Str), c)] ∧ DictX K (costsD cs) c H2, rfl, by rw [upd_ne (Ne.symm nqx)]; exact hx, hsx, eH.trans (Ex.new hq), ⟨c, cs, rfl, hc1, hnd, l3, fun fs H2 h => h⟩, fun Hs4 H4 fs g1 g2 g3 g4 => ⟨Hs4, fs, g1, g2, g3, g4⟩⟩
    · obtain ⟨v4, H4, I4, r4, Hs4, fs, g1, g2, g3, c4, rfl, hc4⟩ := h4
      show _root_.PySem.wpAt _ _ _ (execs (defBody sLeastI).tail (envF F (He.ma K (He.ga K "Least") "__init__") s.heap.objs.size)) _ _ _
      refine wpAt_of_wpAny ?_
      have ps := rest_ps T (P := P) (w := w) (base := base) (F := F) (f := He.ma K (He.ga K "Least") "__init__") (A := A) (outer := outer) (s := s) (H := H) (E := E) rfl hr.hd tr
      refine wpAny_mono (ps.run [] _ _ H4 { nx := fun _ H' => Q .non H', rt := Q } I4 ?_) (fun fl s' hs => ?_) fun e s' hs => hs
      · have nx4 : Hs4 x = none := g1.d x _ (by rw [upd_ne (Ne.symm nqx)]; exact hx) hsx
        have e1 := evd_listOf (K := K) (t := tv) (evd_var (i := 1) (σ := startF NLN [.ref x, v, r, c] [some (.ref (He.ga K "Least"))]) (v := v) (H := Hs4) rfl (dp_ex g1.b hv1))
        refine y_fld (P := fun v H => Dp K H v (.list (vs.map dV))) e1 g1.c rfl g2 (T.cl "Least") (T.no "Least" "vectors") (by show 1 < 1000; decide) fun v5 Hs5 H5 f5 hv5 => ?_
        dsimp only
        have nx5 : Hs5 x = none := f5.d x _ g2 nx4
        have x5 : H5 x = _ := f5.a _ _ g2
        have e2 := evd_lcM (K := K) (σ := startF NLN [.ref x, v, r, c] [some (.ref (He.ga K "Least"))]) (H := Hs5) (vs := [5]) (te := tCB (rListOf K) (tCons (tVar 5) tNil)) rs dRun (wk_sqA tr rs dRun (j := 5) (evd_var (i := 2) (v := r) rfl (dp_ex (g1.b.trans f5.b) hr1))) (by omega) fun i a σ2 H' hi ex hS => by
          obtain ⟨u, ⟨a1, h1, p1⟩, rfl⟩ := hS
          rw [hi] at h1
          cases h1
          exact ⟨rfl, evd_listOf (t := false) (evd_var (i := 5) (v := u) rfl p1)⟩
        refine y_fld (P := fun v H => Dp K H v (.list (rs.map dRun))) e2 (f5.m.trans (Fm.mut f5.c nx5)).c rfl upd_same (T.cl "Least") (T.no "Least" "runs") (by show 2 < 1000; decide) fun v6 Hs6 H6 f6 hv6 => ?_
        dsimp only
        have nx6 : Hs6 x = none := f6.d x _ upd_same nx5
        have fm0 : Fm Hs H Hs (upd H h'.objs.size (.met (He.ma K (He.ga K "Tabled") "__init__") x)) := ⟨fun y hy => upd_none hy, Ex.refl _, eH.trans (Ex.new hq), fun _ _ _ n => n⟩
        refine kQ Hs6 _ _ (((((fm0.trans g1).trans f5.m).trans (Fm.mut f5.c nx5)).trans f6.m).trans (Fm.mut f6.c nx6)) upd_same (fun b o hb h => ?_) (hF _ _ ⟨c4, v5, v6, rfl, hc4.ex (f5.b.trans f6.b), dp_ex f6.b hv5, hv6⟩)
        rw [upd_ne hb]
        refine f6.a _ _ ?_
        rw [upd_ne hb]
        exact f5.a _ _ (g3 b o hb (by rw [upd_ne (ne_of_none h hq)]; exact h))
      · have fin : ∀ {σ' : L2.St} {H' : Hp} {v : V} {u : Value}, Inv (ncx CX0 P w K mg base NLN F (He.ma K (He.ga K "Least") "__init__") A outer s H E) [] σ' H' s' → L2.RelV v u → Q v H' → CE outer P w H s Q u s' :=
          fun {σ' H' v u} J rv q => ⟨v, H', J.os, J.bare, J.base, J.hok, rv, q⟩
        cases fl with
        | ret u =>
          obtain ⟨v, σ', H', J, rv, q⟩ := hs
          exact fin J rv q
        | next =>
          obtain ⟨σ', H', J, q⟩ := hs
          exact fin (v := V.non) (u := Value.none) J rfl q
        | brk =>
          obtain ⟨_, _, _, q⟩ := hs
          exact False.elim q
        | cont =>
          obtain ⟨_, _, _, q⟩ := hs
          exact False.elim q
end
end K02
set_option Elab.async false
set_option linter.all false
set_option maxRecDepth 100000
set_option maxHeartbeats 2000000
/-! ### the law's _law_draw -/
namespace K02
open PySem PySem.Spec PyProof.Rows L2 Evl
def drawRow (s : List Int) : List Int := if s = [] then [7] else s.take 60
def divN : Nat → Int → Int
  | 0, c => c
  | n + 1, c => divN n c / 97
def drawC (s : List Int) (a : Nat) : Int := (drawRow s).getD (a % (drawRow s).length) 0
def drawI (s : List Int) (a : Nat) (many : Int) : Int :=
  if decide (drawC s a ≥ (10 : Int) ^ (18 : Int).toNat) = true then divN (a / (drawRow s).length % 40) (drawC s a % (97 : Int) ^ (40 : Int).toNat) % 97 % many
  else (((drawC s a + 31 * ((a / (drawRow s).length : Nat) : Int)) % 1000003 + 977 * (a : Int) + 13) * 48271 + drawC s a / 1000003 % 999983) % 2147483647 * 65537 % 4294967291 % many
theorem drawI_range (s : List Int) (a : Nat) {many : Int} (h : 0 < many) : 0 ≤ drawI s a many ∧ drawI s a many < many := by
  unfold drawI
  split
  · exact ⟨Int.emod_nonneg _ (by omega), Int.emod_lt_of_pos _ h⟩
  · exact ⟨Int.emod_nonneg _ (by omega), Int.emod_lt_of_pos _ h⟩
theorem drawRow_pos (s : List Int) : 0 < (drawRow s).length ∧ (drawRow s).length ≤ 60 := by
  unfold drawRow
  split
  · decide
  · rename_i h
    have := List.length_pos_iff.mpr h
    rw [List.length_take]
    omega
def rDraw (K : PySem.W.Frag) : List V → Hp → PyData → Prop := fun vs Hs d => ∃ (x : V) (s : List Int) (a : Nat) (many : Int), vs = [x, .int (a : Int), .int many] ∧ Dp K Hs x (.list (s.map .int)) ∧ s.length ≤ 1000 ∧ a ≤ 100000 ∧ 0 < many ∧ d = .int (drawI s a many)
section
variable {P : Program} {w : World} {K : PySem.W.Frag} {mg : Str → Option Value} {base : Heap} {σ : L2.St} {H : Hp} {ta tb te : TE}
theorem ev_mod {i j : Int} (ha : Ev ta σ H (.int i)) (hb : Ev tb σ H (.int j)) (h : 0 < j) : Ev (tOp (rI (fun _ j => 0 < j) fun i j => .int (i % j)) ta tb) σ H (.int (i % j)) := ev_op ha hb (rv_I h)
theorem ev_div {i j : Int} (ha : Ev ta σ H (.int i)) (hb : Ev tb σ H (.int j)) (h : CDiv i j) : Ev (tOp (rI CDiv fun i j => .int (i / j)) ta tb) σ H (.int (i / j)) := ev_op ha hb (rv_I h)
theorem ev_mul {i j : Int} (ha : Ev ta σ H (.int i)) (hb : Ev tb σ H (.int j)) (h : CMul i j) : Ev (tOp (rI CMul fun i j => .int (i * j)) ta tb) σ H (.int (i * j)) := ev_op ha hb (rv_I h)
theorem ev_pow {i j : Int} (ha : Ev ta σ H (.int i)) (hb : Ev tb σ H (.int j)) (h : CPow i j) : Ev (tOp (rI CPow fun i j => .int (i ^ j.toNat)) ta tb) σ H (.int (i ^ j.toNat)) := ev_op ha hb (rv_I h)
theorem ev_add {i j : Int} (ha : Ev ta σ H (.int i)) (hb : Ev tb σ H (.int j)) : Ev (tOp (rI0 fun i j => .int (i + j)) ta tb) σ H (.int (i + j)) := ev_op ha hb rv_I0
theorem ev_sub {i j : Int} (ha : Ev ta σ H (.int i)) (hb : Ev tb σ H (.int j)) : Ev (tOp (rI0 fun i j => .int (i - j)) ta tb) σ H (.int (i - j)) := ev_op ha hb rv_I0
theorem ev_intOf {i : Int} (h : Ev te σ H (.int i)) : Ev (tCB (fun xs H Q => (∃ i, xs = [.int i] ∧ Q (.int i) H) ∨ ∃ k, xs = [.bl k] ∧ Q (.int (if k then 1 else 0)) H) (tCons te tNil)) σ H (.int i) := fun H1 e Q q =>
  h H1 e _ fun H2 e2 => .inl ⟨i, rfl, q H2 e2⟩
theorem shaped_ints : ∀ s : List Int, SeqAt.shaped (.list (s.map PyData.int)) = true := fun s => by
  unfold SeqAt.shaped
  induction s with
  | nil => rfl
  | cons a s ih => first | exact ih | simpa [SeqAt.shaped] using ih
theorem evd_if {b : Bool} {t : TT} {d : PyData} (h : EvT t σ H b) (h1 : b = true → EvD K ta σ H d) (h2 : b = false → EvD K tb σ H d) : EvD K (tIf t ta tb) σ H d := fun Hs H1 a b' Q q => h H1 (a.trans b') _ fun H2 e2 => by
  cases b with
  | true => exact h1 rfl Hs H2 a (b'.trans e2) Q fun v Hs3 H3 f p => q v Hs3 H3 ((Fw.skip b' e2).trans f) p
  | false => exact h2 rfl Hs H2 a (b'.trans e2) Q fun v Hs3 H3 f p => q v Hs3 H3 ((Fw.skip b' e2).trans f) p
theorem y_par {D : Ends} {Hs : Hp} {i j : Nat} {ta : TA} {v w : V} (h : EvA ta σ Hs [v, w]) (e : Ex Hs H) (k : ∀ H1, Ex H H1 → D.nx ((σ.set i (some v)).set j (some w)) H1) : tPar i j ta D σ H := h H e _ fun H1 e1 => ⟨v, w, rfl, k H1 e1⟩
abbrev NLD : List Str := ["_law_script", "_law_at", "_law_many", "_law_row", "_law_cell", "_law_turn", "_law_step", "_law_mixed"]
theorem scDraw : FnScope NLD ["_law_script", "_law_at", "_law_many"] (defScope lDraw) := ⟨rfl, rfl, rfl, by decide +kernel, rfl, by decide +kernel, by decide +kernel⟩
theorem ok_draw (T : G K mg) : Ok P w K mg base CX0 1 (He.ga K "_law_draw") ["_law_script", "_law_at", "_law_many"] (spD K (rDraw K)) := by
  obtain ⟨fd, F⟩ := T.fun0 27
  refine ok_of F scDraw (fun vs H Q E h => ?_) (fun _ _ _ _ _ _ us hl => match us, hl with | [_, _, _], _ => rfl) fun cdv A outer s H vs Q E hr h => ?_
  · obtain ⟨_, _, _, ⟨_, _, _, _, rfl, _⟩, _⟩ := h
    rfl
  · obtain ⟨Hs, d, eH, ⟨x, sc, a, many, rfl, hx, hl, ha, hm, rfl⟩, kQ⟩ := h
    refine ⟨_, pss_cons (ps_set (i := 3) scDraw.nd rfl (Or.inl rfl) (pe_ifExp (pt_cmpR (op_neD hr.units) (pv 0) (pe_lst pa_nil) (nomark _)) (pe_slice sl_list (pv 0) po_none (po_some pe_int)) (pe_lst (pa_cons pe_int pa_nil))))
      (pss_cons (ps_par (i := 4) (j := 5) rfl scDraw.nd rfl rfl (by decide) rfl rfl (pa_cons (pe_ix ix_list (pv 3) (pe_op op_mod (pv 1) (pe_callB call_len_seq rfl (T.fr "len") (by decide +kernel) (pa_cons (pv 3) pa_nil))) (fun _ _ => rfl)) (pa_cons (pe_op op_fdiv (pv 1) (pe_callB call_len_seq rfl (T.fr "len") (by decide +kernel) (pa_cons (pv 3) pa_nil))) pa_nil)) (by rfl))
      (pss_cons (ps_if (pt_cmpR (op_ge) (pv 4) (pe_op op_pow pe_int pe_int) (nomark _))
        (pss_cons (ps_set (i := 4) scDraw.nd rfl (Or.inl rfl) (pe_op op_mod (pe_callTy call_int1 rfl (T.fr "int") (by decide +kernel) (pa_cons (pv 4) pa_nil)) (pe_op op_pow pe_int pe_int)))
          (pss_cons (ps_for PassesOwn.never rfl (pi_range1 rfl (T.fr "range") (pa_cons (pe_op op_mod (pv 5) pe_int) pa_nil)) (pg_name (i := 6) scDraw.nd rfl (Or.inl rfl)) (pss_one (ps_set (i := 4) scDraw.nd rfl (Or.inl rfl) (pe_op op_fdiv (pv 4) pe_int))))
            (pss_one (ps_ret (pe_op op_mod (pe_op op_mod (pe_callTy call_int1 rfl (T.fr "int") (by decide +kernel) (pa_cons (pv 4) pa_nil)) pe_int) (pv 2)))))) pss_nil)
      (pss_cons (ps_set (i := 7) scDraw.nd rfl (Or.inl rfl) (pe_op op_add (pe_op op_mul (pe_op op_add (pe_op op_add (pe_op op_mod (pe_callTy call_int1 rfl (T.fr "int") (by decide +kernel) (pa_cons (pe_op op_add (pv 4) (pe_op op_mul pe_int (pv 5))) pa_nil)) pe_int) (pe_op op_mul pe_int (pv 1))) pe_int) pe_int) (pe_op op_mod (pe_callTy call_int1 rfl (T.fr "int") (by decide +kernel) (pa_cons (pe_op op_fdiv (pv 4) pe_int) pa_nil)) pe_int)))
      (pss_one (ps_ret (pe_op op_mod (pe_callTy call_int1 rfl (T.fr "int") (by decide +kernel) (pa_cons (pe_op op_mod (pe_op op_mul (pe_op op_mod (pv 7) pe_int) pe_int) pe_int) pa_nil)) (pv 2))))))), ?_⟩
    obtain ⟨rp, rl⟩ := drawRow_pos sc
    have xv : EvD K (tVar 0) (start NLD [x, .int (a : Int), .int many]) Hs (.list (sc.map .int)) := evd_var (i := 0) (v := x) rfl hx
    have t0 := et_test (ev_neD xv (evd_lst ead_nil (by decide)) (shaped_ints sc) (shaped_ints []))
    have row : EvD K _ (start NLD [x, .int (a : Int), .int many]) Hs (.list ((drawRow sc).map .int)) := evd_if (K := K) t0 (fun hb => evd_eq (evd_slL xv eo_none (eo_some (ev_c (v := .int 60)))) ?_) (fun hb => evd_eq (evd_lst (ead_cons (evd_c (.int 7)) ead_nil) (by decide)) ?_)
    · refine y_asg row eH fun rv Hs1 H1 f1 hrv => ?_
      have sz : (start NLD [x, .int (a : Int), .int many]).set 3 (some rv) = [some x, some (.int (a : Int)), some (.int many), some rv, none, none, none, none] := rfl
      rw [sz]
      have hlen : Ev (tCB (fun xs H Q => ∃ p ys, xs = [.ref p] ∧ (SqL K H p ys ∨ SqT K H p ys) ∧ Q (.int ys.length) H) (tCons (tVar 3) tNil)) [some x, some (.int (a : Int)), some (.int many), some rv, none, none, none, none] Hs1 (.int ((drawRow sc).length : Int)) := by
        have := ev_lenD (K := K) (t := false) (σ := [some x, some (.int (a : Int)), some (.int many), some rv, none, none, none, none]) (evd_var (i := 3) (v := rv) rfl hrv)
        rw [List.length_map] at this
        exact this
      have em : ((a : Int) % ((drawRow sc).length : Int)) = ((a % (drawRow sc).length : Nat) : Int) := by omega
      have ed : ((a : Int) / ((drawRow sc).length : Int)) = ((a / (drawRow sc).length : Nat) : Int) := by omega
      have m1 := ev_mod (σ := [some x, some (.int (a : Int)), some (.int many), some rv, none, none, none, none]) (H := Hs1) (ev_var (i := 1) (v := .int (a : Int)) rfl) hlen (by omega)
      have d1 := ev_div (σ := [some x, some (.int (a : Int)), some (.int many), some rv, none, none, none, none]) (H := Hs1) (ev_var (i := 1) (v := .int (a : Int)) rfl) hlen ⟨by omega, by omega⟩
      rw [em] at m1
      rw [ed] at d1
      have hlt : a % (drawRow sc).length < (drawRow sc).length := Nat.mod_lt _ rp
      have c1 := ev_int (K := K) (evd_ixL (K := K) (d := .int (drawC sc a)) (evd_var (i := 3) (v := rv) (σ := [some x, some (.int (a : Int)), some (.int many), some rv, none, none, none, none]) rfl hrv) m1 (by
        rw [List.getElem?_map, List.getElem?_eq_getElem hlt]
        show some (PyData.int _) = some (PyData.int _)
        unfold drawC
        rw [List.getD_eq_getElem?_getD, List.getElem?_eq_getElem hlt]
        rfl))
      refine y_par (ea_cons c1 (ea_cons d1 ea_nil)) f1.c fun H2 e2 => ?_
      have sz2 : (([some x, some (.int (a : Int)), some (.int many), some rv, none, none, none, none] : L2.St).set 4 (some (.int (drawC sc a)))).set 5 (some (.int ((a / (drawRow sc).length : Nat) : Int))) = [some x, some (.int (a : Int)), some (.int many), some rv, some (.int (drawC sc a)), some (.int ((a / (drawRow sc).length : Nat) : Int)), none, none] := rfl
      rw [sz2]
      generalize htn : a / (drawRow sc).length = tn at *
      have t2 := et_test (ev_op (σ := [some x, some (.int (a : Int)), some (.int many), some rv, some (.int (drawC sc a)), some (.int (tn : Int)), none, none]) (H := H2) (ev_var (i := 4) (v := .int (drawC sc a)) rfl) (ev_pow (ev_c (v := .int 10)) (ev_c (v := .int 18)) ⟨by decide, by decide, by decide⟩) (rv_I0 (g := fun i j => .bl (decide (j ≤ i)))))
      have f2 : Fw Hs H Hs1 H2 := f1.trans (Fw.skip f1.c e2)
      refine y_if t2 (Ex.refl _) (fun hb H3 e3 => ?_) fun hb H3 e3 => ?_
      · have f3 : Fw Hs H Hs1 H3 := f2.trans (Fw.skip f2.c e3)
        refine y_asg (P := fun v _ => v = .int (drawC sc a % (97 : Int) ^ (40 : Int).toNat)) (Hs := H3) (evp_of (ev_mod (ev_intOf (ev_var (i := 4) (v := .int (drawC sc a)) rfl)) (ev_pow (ev_c (v := .int 97)) (ev_c (v := .int 40)) ⟨by decide, by decide, by decide⟩) (by decide)) fun _ _ => rfl) (Ex.refl _) fun v Hs4 H4 f4 hv => ?_
        subst hv
        have r1 : EvA (tCons (tOp (rI (fun _ j => 0 < j) fun i j => .int (i % j)) (tVar 5) (tC (.int 40))) tNil) [some x, some (.int (a : Int)), some (.int many), some rv, some (.int (drawC sc a % (97 : Int) ^ (40 : Int).toNat)), some (.int (tn : Int)), none, none] H4 [.int ((tn % 40 : Nat) : Int)] :=
          ea_cons (ev_mod (ev_var (i := 5) (v := .int (tn : Int)) rfl) (ev_c (v := .int 40)) (by decide)) ea_nil
        refine y_for (wk_range (j := 6) r1 (by omega)) (Ex.refl _) (fun i σ' Hs' H' => Ex H4 H' ∧ ∃ z, σ' = [some x, some (.int (a : Int)), some (.int many), some rv, some (.int (divN i (drawC sc a % (97 : Int) ^ (40 : Int).toNat))), some (.int (tn : Int)), z, none])
          (fun Hs5 H5 f5 => ⟨f5.a, none, rfl⟩) (fun i σ' Hs' H' hi f iv σ5 Hs5 H5 f5 hS N hN => ?_) fun σ' Hs' H' f iv => ?_
        · obtain ⟨ex, z, rfl⟩ := iv
          obtain ⟨u, rfl, rfl⟩ := hS
          refine y_asg (P := fun v _ => v = .int (divN (i + 1) (drawC sc a % (97 : Int) ^ (40 : Int).toNat))) (Hs := Hs5) (evp_of (ev_div (ev_var (i := 4) (v := .int (divN i (drawC sc a % (97 : Int) ^ (40 : Int).toNat))) rfl) (ev_c (v := .int 97)) ⟨by decide, by decide⟩) fun _ _ => rfl) f5.c fun v Hs6 H6 f6 hv => ?_
          subst hv
          exact hN _ Hs6 _ (f5.trans f6).m ⟨ex.trans (f5.trans f6).a, _, rfl⟩
        · obtain ⟨ex, z, rfl⟩ := iv
          dsimp only
          refine y_ret (P := fun v _ => v = .int (drawI sc a many)) (Hs := H') (evp_of (ev_mod (ev_mod (ev_intOf (ev_var (i := 4) (v := .int (divN (tn % 40) (drawC sc a % (97 : Int) ^ (40 : Int).toNat))) rfl)) (ev_c (v := .int 97)) (by decide)) (ev_var (i := 2) (v := .int many) rfl) hm) fun _ _ => ?_) (Ex.refl _) fun v Hs4 H4' f4' hv => ?_
          · unfold drawI
            rw [htn, if_pos hb]
          · subst hv
            have e5 := ex.trans f4'.a
            have f4f : Fw Hs H Hs1 H4' := f3.trans (Fw.skip f3.c (f4.a.trans e5))
            exact kQ _ Hs1 _ f4f (.int _)
      · have f3 : Fw Hs H Hs1 H3 := f2.trans (Fw.skip f2.c e3)
        dsimp only
        have v4 : ∀ H, Ev (tVar 4) [some x, some (.int (a : Int)), some (.int many), some rv, some (.int (drawC sc a)), some (.int (tn : Int)), none, none] H (.int (drawC sc a)) := fun H => ev_var rfl
        have m1 := ev_mod (H := H3) (ev_intOf (ev_add (v4 H3) (ev_mul (ev_c (v := .int 31)) (ev_var (i := 5) (v := .int (tn : Int)) rfl) (.inl ⟨by decide, by decide⟩)))) (ev_c (v := .int 1000003)) (by decide)
        have m2 := ev_mul (ev_add (ev_add m1 (ev_mul (ev_c (v := .int 977)) (ev_var (i := 1) (v := .int (a : Int)) rfl) (.inl ⟨by decide, by decide⟩))) (ev_c (v := .int 13))) (ev_c (v := .int 48271)) (.inr ⟨by decide, by decide⟩)
        have m3 := ev_add m2 (ev_mod (ev_intOf (ev_div (v4 H3) (ev_c (v := .int 1000003)) ⟨by decide, by decide⟩)) (ev_c (v := .int 999983)) (by decide))
        refine y_asg (P := fun v _ => v = .int (((drawC sc a + 31 * (tn : Int)) % 1000003 + 977 * (a : Int) + 13) * 48271 + drawC sc a / 1000003 % 999983)) (Hs := H3) (evp_of m3 fun _ _ => rfl) (Ex.refl _) fun v Hs4 H4 f4 hv => ?_
        subst hv
        dsimp only
        refine y_ret (P := fun v _ => v = .int (drawI sc a many)) (Hs := H4) (evp_of (ev_mod (ev_intOf (ev_mod (ev_mul (ev_mod (ev_var (i := 7) (v := .int (((drawC sc a + 31 * (tn : Int)) % 1000003 + 977 * (a : Int) + 13) * 48271 + drawC sc a / 1000003 % 999983)) rfl) (ev_c (v := .int 2147483647)) (by decide)) (ev_c (v := .int 65537)) (.inr ⟨by decide, by decide⟩)) (ev_c (v := .int 4294967291)) (by decide))) (ev_var (i := 2) (v := .int many) rfl) hm) fun _ _ => ?_) (Ex.refl _) fun v Hs5 H5 f5 hv => ?_
        · unfold drawI
          rw [htn, if_neg (by rw [hb]; decide)]
        · subst hv
          exact kQ _ Hs1 _ (f3.trans (Fw.skip f3.c (f4.a.trans f5.a))) (.int _)
    · have hne : sc ≠ [] := fun z => by rw [z] at hb; exact absurd hb (by decide)
      have : cutD (sc.map PyData.int) none (some ((60 : Nat) : Int)) = (sc.map PyData.int).take 60 := cut_to _ 60
      show PyData.list (cutD (sc.map PyData.int) none (some ((60 : Nat) : Int))) = _
      rw [this, ← List.map_take]
      unfold drawRow
      rw [if_neg hne]
    · have he : sc = [] := by
        cases sc with
        | nil => rfl
        | cons z zs => exact absurd hb (by simp [PyData.eqv, PyData.eqvAll])
      subst he
      rfl
end
end K02
set_option Elab.async false
set_option linter.all false
set_option maxRecDepth 100000
set_option maxHeartbeats 2000000
/-! ### the law's _law_machine, _law_some -/
namespace K02
open PySem PySem.Spec PyProof.Rows L2 Evl
def lmMany (s : List Int) : Int := 2 + drawI s 0 3
def lmStep (s : List Int) (kinds : List Str) (many : Int) (i : Nat) : Stp :=
  ⟨if (decide ((i : Int) + 1 < many) && decide (drawI s (5 * i + 2) 2 = 0)) = true then (i : Int) else drawI s (5 * i + 2 + 3) many, kinds.getD (drawI s (5 * i + 2 + 1) (kinds.length : Int)).toNat "", "", drawI s (5 * i + 2 + 4) many⟩
def lmCount (s : List Int) : Nat := (lmMany s + drawI s 1 (lmMany s + 3)).toNat
def lmRaw (s : List Int) (kinds : List Str) : List Stp := (List.range (lmCount s)).map (lmStep s kinds (lmMany s))
theorem lmMany_range (s : List Int) : 2 ≤ lmMany s ∧ lmMany s ≤ 4 := by
  have := drawI_range s 0 (many := 3) (by decide)
  unfold lmMany
  omega
theorem lmCount_eq (s : List Int) : ((lmCount s : Nat) : Int) = lmMany s + drawI s 1 (lmMany s + 3) ∧ lmCount s ≤ 10 := by
  have h := lmMany_range s
  have := drawI_range s 1 (many := lmMany s + 3) (by omega)
  unfold lmCount
  omega
def rLM (K : PySem.W.Frag) : List V → Hp → PyData → Prop := fun vs Hs d => ∃ (x kv wv : V) (s : List Int) (kinds : List Str), vs = [x, .int 0, .int 4, kv, wv] ∧ Dp K Hs x (.list (s.map .int)) ∧ s.length ≤ 1000 ∧ Dp K Hs kv (.tuple (kinds.map .str)) ∧ 0 < kinds.length ∧ kinds.length ≤ 10 ∧
  Dp K Hs wv (.tuple [.str ""]) ∧ d = .tuple [.int (lmMany s), .list ((lmRaw s kinds).map dStp)]
section
variable {P : Program} {w : World} {K : PySem.W.Frag} {mg : Str → Option Value} {base : Heap} {σ : L2.St} {H : Hp} {ta tb tc te : TE}
theorem ev_draw {s : List Int} {a : Nat} {many : Int} (hx : EvD K ta σ H (.list (s.map .int))) (ha : Ev tb σ H (.int (a : Int))) (hm : Ev tc σ H (.int many)) (hl : s.length ≤ 1000) (hz : a ≤ 100000) (h0 : 0 < many) : Ev (tCall (spD K (rDraw K)) [] E0 (tCons ta (tCons tb (tCons tc tNil)))) σ H (.int (drawI s a many)) :=
  ev_int (K := K) (evd_call (ds := [.list (s.map .int), .int (a : Int), .int many]) (ead_cons hx (ead_cons (evd_int ha) (ead_cons (evd_int hm) ead_nil))) fun vs Hs _ hvs => by
    obtain ⟨x, y, z, rfl, h1, h2, h3⟩ := dps3 hvs
    have q2 := dp_int h2
    have q3 := dp_int h3
    subst q2 q3
    exact ⟨x, s, a, many, rfl, h1, hl, hz, h0, rfl⟩)
theorem evd_ifI {b : Bool} {t : TT} {i j : Int} (h : EvT t σ H b) (h1 : b = true → Ev ta σ H (.int i)) (h2 : b = false → Ev tb σ H (.int j)) : Ev (tIf t ta tb) σ H (.int (if b = true then i else j)) := by
  cases b with
  | true => exact ev_if h (fun e => by rw [if_pos rfl]; exact h1 e) fun e => by cases e
  | false => exact ev_if h (fun e => by cases e) fun e => by rw [if_neg (by decide)]; exact h2 e
theorem nx_st {f : L2.St → Hp → Prop} {σ2 : L2.St} (e : σ = σ2) (h : f σ2 H) : f σ H := by rw [e]; exact h
abbrev NLM : List Str := ["_law_script", "_law_at", "_law_most", "_law_kinds", "_law_words", "_law_many", "_law_steps", "_law_turn", "_law_spot", "_law_kind", "_law_seen", "_law_first"]
theorem scLM : FnScope NLM ["_law_script", "_law_at", "_law_most", "_law_kinds", "_law_words"] (defScope lMachine) := ⟨rfl, rfl, rfl, by decide +kernel, rfl, by decide +kernel, by decide +kernel⟩
theorem ok_lMach (T : G K mg) : Ok P w K mg base CX0 2 (He.ga K "_law_machine") ["_law_script", "_law_at", "_law_most", "_law_kinds", "_law_words"] (spD K (rLM K)) := by
  obtain ⟨fd, F⟩ := T.fun0 28
  obtain ⟨fdD, GD, bD, kD⟩ := ok_draw (P := P) (w := w) (base := base) T
  refine ok_of F scLM (fun vs H Q E h => ?_) (fun _ _ _ _ _ _ us hl => match us, hl with | [_, _, _, _, _], _ => rfl) fun cdv A outer s H vs Q E hr h => ?_
  · obtain ⟨_, _, _, ⟨_, _, _, _, _, rfl, _⟩, _⟩ := h
    rfl
  · obtain ⟨Hs, d, eH, ⟨x, kv, wv, sc, kinds, rfl, hx, hl, hk, k0, k1, hw, rfl⟩, kQ⟩ := h
    refine ⟨_, pss_cons (ps_set (i := 5) scLM.nd rfl (Or.inl rfl) (pe_op op_add pe_int (pe_call GD hr rfl (T.gl "_law_draw") kD bD .nil pass0 (pa_cons (pv 0) (pa_cons (pv 1) (pa_cons (pe_op op_sub (pv 2) pe_int) pa_nil))))))
      (pss_cons (ps_set (i := 6) scLM.nd rfl (Or.inl rfl) (pe_lst pa_nil))
      (pss_cons (ps_for PassesOwn.never rfl (pi_range1 rfl (T.fr "range") (pa_cons (pe_op op_add (pv 5) (pe_call GD hr rfl (T.gl "_law_draw") kD bD .nil pass0 (pa_cons (pv 0) (pa_cons (pe_op op_add (pv 1) pe_int) (pa_cons (pe_op op_add (pv 5) pe_int) pa_nil))))) pa_nil)) (pg_name (i := 7) scLM.nd rfl (Or.inl rfl))
        (pss_cons (ps_set (i := 8) scLM.nd rfl (Or.inl rfl) (pe_op op_add (pe_op op_add (pv 1) (pe_op op_mul pe_int (pv 7))) pe_int))
        (pss_cons (ps_par (i := 9) (j := 10) rfl scLM.nd rfl rfl (by decide) rfl rfl (pa_cons (pe_ix ix_tup (pv 3) (pe_call GD hr rfl (T.gl "_law_draw") kD bD .nil pass0 (pa_cons (pv 0) (pa_cons (pe_op op_add (pv 8) pe_int) (pa_cons (pe_callB call_len_seq rfl (T.fr "len") (by decide +kernel) (pa_cons (pv 3) pa_nil)) pa_nil)))) (fun _ _ => rfl))
          (pa_cons (pe_ix ix_tup (pv 4) (pe_call GD hr rfl (T.gl "_law_draw") kD bD .nil pass0 (pa_cons (pv 0) (pa_cons (pe_op op_add (pv 8) pe_int) (pa_cons (pe_callB call_len_seq rfl (T.fr "len") (by decide +kernel) (pa_cons (pv 4) pa_nil)) pa_nil)))) (fun _ _ => rfl)) pa_nil)) (by rfl))
        (pss_cons (ps_set (i := 11) scLM.nd rfl (Or.inl rfl) (pe_ifExp (PW.pt (pw_and (pt_cmpR op_lt (pe_op op_add (pv 7) pe_int) (pv 5) (nomark _)) (pw_and1 (pt_cmpR op_eq (pe_call GD hr rfl (T.gl "_law_draw") kD bD .nil pass0 (pa_cons (pv 0) (pa_cons (pv 8) (pa_cons pe_int pa_nil)))) pe_int (nomark _)))))
          (pv 7) (pe_call GD hr rfl (T.gl "_law_draw") kD bD .nil pass0 (pa_cons (pv 0) (pa_cons (pe_op op_add (pv 8) pe_int) (pa_cons (pv 5) pa_nil))))))
        (pss_one (ps_expr (pe_bm PySem.F.plainAttrs_list PySem.F.slot_list_append PySem.F.type_list_append mt_append (pv 6) (pa_cons (pe_tup (pa_cons (pv 11) (pa_cons (pv 9) (pa_cons (pv 10) (pa_cons (pe_call GD hr rfl (T.gl "_law_draw") kD bD .nil pass0 (pa_cons (pv 0) (pa_cons (pe_op op_add (pv 8) pe_int) (pa_cons (pv 5) pa_nil)))) pa_nil))))) pa_nil))))))))
      (pss_one (ps_ret (pe_tup (pa_cons (pv 5) (pa_cons (pv 6) pa_nil))))))), ?_⟩
    have hmr := lmMany_range sc
    obtain ⟨hc, hc10⟩ := lmCount_eq sc
    generalize hM : lmMany sc = many at *
    have xv : ∀ {σ : L2.St} {H2 : Hp}, Ex Hs H2 → σ[0]? = some (some x) → EvD K (tVar 0) σ H2 (.list (sc.map .int)) := fun e h => evd_var (i := 0) (v := x) h (dp_ex e hx)
    have d0 := ev_add (H := Hs) (σ := start NLM [x, .int 0, .int 4, kv, wv]) (ev_c (v := .int 2)) (ev_draw (a := 0) (many := 3) (xv (Ex.refl _) rfl) (ev_var (i := 1) (v := .int 0) rfl) (ev_sub (ev_var (i := 2) (v := .int 4) rfl) (ev_c (v := .int 1))) hl (by decide) (by decide))
    have e0 : (2 + drawI sc 0 3 : Int) = many := hM
    rw [e0] at d0
    refine y_asg (P := fun v _ => v = .int many) (evp_of d0 fun _ _ => rfl) eH fun v1 Hs1 H1 f1 hv => ?_
    subst hv
    dsimp only
    refine y_asg (P := fun v H => ∃ l, v = .ref l ∧ H1 l = none ∧ H l = some (.lst [])) (Hs := H1) (fun Hs' H' a b Q q => ⟨Nat.zero_le _, fun l hl => q _ (upd Hs' l (.lst [])) _ (Fw.new b hl) ⟨l, rfl, fresh_back (a.trans b) hl, upd_same⟩⟩) (Ex.refl _) fun v2 Hs2 H2 f2 hv => ?_
    obtain ⟨l, rfl, hl0, hl2⟩ := hv
    have hHs1l : Hs1 l = none := fresh_back f1.c hl0
    dsimp only
    have sz : (((start NLM [x, .int 0, .int 4, kv, wv]).set 5 (some (.int many))).set 6 (some (.ref l)) : L2.St) = [some x, some (.int 0), some (.int 4), some kv, some wv, some (.int many), some (.ref l), none, none, none, none, none] := rfl
    rw [sz]
    have hl2' : H2 l = some (.lst []) := f2.c _ _ hl2
    have m2 : Fm Hs H Hs1 H2 := f1.m.trans ⟨fun y hy => fresh_back f2.a hy, Ex.refl _, f1.c.trans f2.a, fun _ _ _ n => n⟩
    have r1 : EvA (tCons (tOp (rI0 fun i j => .int (i + j)) (tVar 5) (tCall (spD K (rDraw K)) [] E0 (tCons (tVar 0) (tCons (tOp (rI0 fun i j => .int (i + j)) (tVar 1) (tC (.int 1))) (tCons (tOp (rI0 fun i j => .int (i + j)) (tVar 5) (tC (.int 3))) tNil))))) tNil) [some x, some (.int 0), some (.int 4), some kv, some wv, some (.int many), some (.ref l), none, none, none, none, none] Hs1 [.int ((lmCount sc : Nat) : Int)] := by
      rw [hc]
      exact ea_cons (ev_add (ev_var (i := 5) (v := .int many) rfl) (ev_draw (a := 1) (many := many + 3) (xv f1.b rfl) (ev_add (ev_var (i := 1) (v := .int 0) rfl) (ev_c (v := .int 1))) (ev_add (ev_var (i := 5) (v := .int many) rfl) (ev_c (v := .int 3))) hl (by decide) (by omega))) ea_nil
    refine y_for (wk_range (j := 7) r1 (by omega)) m2.c (fun i σ' Hs' H' => ∃ z7 z8 z9 z10 z11 xs, σ' = [some x, some (.int 0), some (.int 4), some kv, some wv, some (.int many), some (.ref l), z7, z8, z9, z10, z11] ∧ H' l = some (.lst xs) ∧ Hs' l = none ∧ Ex H1 H' ∧ Ex Hs1 Hs' ∧ DpAll K Hs' xs (((List.range i).map (lmStep sc kinds many)).map dStp))
      (fun Hs5 H5 f5 => ⟨none, none, none, none, none, [], rfl, f5.a _ _ hl2', f5.d _ _ hl2' hHs1l, f2.a.trans f5.a, f5.b, .nil⟩) (fun i σ' Hs' H' hi f iv σ5 Hs5 H5 f5 hS N hN => ?_) fun σ' Hs' H' f iv => ?_
    · obtain ⟨z7, z8, z9, z10, z11, xs, rfl, hxs, hn, hxH, hex, hd⟩ := iv
      obtain ⟨u, rfl, rfl⟩ := hS
      have e1 : Ex Hs Hs' := f1.b.trans hex
      have em : ∀ {σ : L2.St} {H2 : Hp}, σ[5]? = some (some (.int many)) → Ev (tVar 5) σ H2 (.int many) := fun h => ev_var h
      have sp : ((0 : Int) + 5 * (i : Int) + 2) = ((5 * i + 2 : Nat) : Int) := by omega
      have s1 := ev_add (H := Hs5) (σ := [some x, some (.int 0), some (.int 4), some kv, some wv, some (.int many), some (.ref l), some (.int (i : Int)), z8, z9, z10, z11]) (ev_add (ev_var (i := 1) (v := .int 0) rfl) (ev_mul (ev_c (v := .int 5)) (ev_var (i := 7) (v := .int (i : Int)) rfl) (.inl ⟨by decide, by decide⟩))) (ev_c (v := .int 2))
      rw [sp] at s1
      refine y_asg (P := fun v _ => v = .int ((5 * i + 2 : Nat) : Int)) (evp_of s1 fun _ _ => rfl) f5.c fun v6 Hs6 H6 f6 hv => ?_
      subst hv
      dsimp only
      have e6 : Ex Hs Hs6 := e1.trans (f5.b.trans f6.b)
      have p8 : ∀ {σ : L2.St} {H2 : Hp} (c : Nat), σ[8]? = some (some (.int ((5 * i + 2 : Nat) : Int))) → Ev (tOp (rI0 fun i j => .int (i + j)) (tVar 8) (tC (.int (c : Int)))) σ H2 (.int ((5 * i + 2 + c : Nat) : Int)) := fun c h => by
        exact ev_add (ev_var (i := 8) h) (ev_c (v := .int (c : Int)))
      have hki : (drawI sc (5 * i + 2 + 1) (kinds.length : Int)).toNat < kinds.length ∧ (((drawI sc (5 * i + 2 + 1) (kinds.length : Int)).toNat : Nat) : Int) = drawI sc (5 * i + 2 + 1) (kinds.length : Int) := by
        have := drawI_range sc (5 * i + 2 + 1) (many := (kinds.length : Int)) (by omega)
        omega
      have c9 := ev_draw (K := K) (σ := [some x, some (.int 0), some (.int 4), some kv, some wv, some (.int many), some (.ref l), some (.int (i : Int)), some (.int ((5 * i + 2 : Nat) : Int)), z9, z10, z11]) (a := 5 * i + 2 + 1) (many := (kinds.length : Int)) (xv e6 rfl) (p8 1 rfl) (by
        have := ev_lenD (K := K) (t := true) (σ := [some x, some (.int 0), some (.int 4), some kv, some wv, some (.int many), some (.ref l), some (.int (i : Int)), some (.int ((5 * i + 2 : Nat) : Int)), z9, z10, z11]) (evd_var (i := 3) (v := kv) rfl (dp_ex e6 hk))
        rw [List.length_map] at this
        exact this) hl (by omega) (by omega)
      rw [← hki.2] at c9
      have k9 := ev_str (K := K) (evd_ixT (K := K) (d := .str (kinds.getD (drawI sc (5 * i + 2 + 1) (kinds.length : Int)).toNat "")) (evd_var (i := 3) (v := kv) rfl (dp_ex e6 hk)) c9 (by
        rw [List.getElem?_map, List.getElem?_eq_getElem hki.1, List.getD_eq_getElem?_getD, List.getElem?_eq_getElem hki.1]
        rfl))
      have c10 := ev_draw (K := K) (σ := [some x, some (.int 0), some (.int 4), some kv, some wv, some (.int many), some (.ref l), some (.int (i : Int)), some (.int ((5 * i + 2 : Nat) : Int)), z9, z10, z11]) (a := 5 * i + 2 + 2) (many := 1) (xv e6 rfl) (p8 2 rfl)
        (ev_lenD (K := K) (t := true) (σ := [some x, some (.int 0), some (.int 4), some kv, some wv, some (.int many), some (.ref l), some (.int (i : Int)), some (.int ((5 * i + 2 : Nat) : Int)), z9, z10, z11]) (evd_var (i := 4) (v := wv) rfl (dp_ex e6 hw))) hl (by omega) (by decide)
      have z0 : drawI sc (5 * i + 2 + 2) 1 = ((0 : Nat) : Int) := by
        have := drawI_range sc (5 * i + 2 + 2) (many := 1) (by decide)
        omega
      rw [z0] at c10
      have k10 := ev_str (K := K) (evd_ixT (K := K) (i := 0) (d := .str "") (evd_var (i := 4) (v := wv) rfl (dp_ex e6 hw)) c10 rfl)
      refine y_par (ea_cons k9 (ea_cons k10 ea_nil)) f6.c fun H7 e7 => ?_
      have f7 : Fw Hs' H' Hs6 H7 := (f5.trans f6).trans (Fw.skip f6.c e7)
      have x7 : Ex Hs H7 := e6.trans (f6.c.trans e7)
      refine nx_st (σ2 := [some x, some (.int 0), some (.int 4), some kv, some wv, some (.int many), some (.ref l), some (.int (i : Int)), some (.int ((5 * i + 2 : Nat) : Int)), some (.str (kinds.getD (drawI sc (5 * i + 2 + 1) (kinds.length : Int)).toNat "")), some (.str ""), z11]) rfl ?_
      generalize hkk : kinds.getD (drawI sc (5 * i + 2 + 1) (kinds.length : Int)).toNat "" = kk at *
      have t11 := et_and (et_test (ev_op (H := H7) (σ := [some x, some (.int 0), some (.int 4), some kv, some wv, some (.int many), some (.ref l), some (.int (i : Int)), some (.int ((5 * i + 2 : Nat) : Int)), some (.str kk), some (.str ""), z11]) (ev_add (ev_var (i := 7) (v := .int (i : Int)) rfl) (ev_c (v := .int 1))) (em rfl) (rv_I0 (g := fun i j => .bl (decide (i < j)))))) fun _ =>
        et_test (ev_eqI (ev_draw (K := K) (a := 5 * i + 2) (many := 2) (xv x7 rfl) (ev_var (i := 8) rfl) (ev_c (v := .int 2)) hl (by omega) (by decide)) (ev_c (v := .int 0)))
      have k11 := evd_ifI t11 (fun _ => ev_var (i := 7) rfl) fun _ => ev_draw (K := K) (a := 5 * i + 2 + 3) (many := many) (xv x7 rfl) (p8 3 rfl) (em rfl) hl (by omega) (by omega)
      refine y_asg (P := fun v _ => v = .int _) (evp_of k11 fun _ _ => rfl) (Ex.refl _) fun v8 Hs8 H8 f8 hv => ?_
      subst hv
      dsimp only
      have ed := evd_tup (K := K) (H := Hs6) (ead_cons (evd_int (ev_var (i := 11) rfl)) (ead_cons (evd_str (ev_var (i := 9) rfl)) (ead_cons (evd_str (ev_var (i := 10) rfl)) (ead_cons (evd_int (ev_draw (K := K) (a := 5 * i + 2 + 4) (many := many) (xv (σ := [some x, some (.int 0), some (.int 4), some kv, some wv, some (.int many), some (.ref l), some (.int (i : Int)), some (.int ((5 * i + 2 : Nat) : Int)), some (.str kk), some (.str ""), some (.int (if (decide ((i : Int) + 1 < many) && decide (drawI sc (5 * i + 2) 2 = 0)) = true then (i : Int) else drawI sc (5 * i + 2 + 3) many))]) e6 rfl) (p8 4 rfl) (em rfl) hl (by omega) (by omega))) ead_nil)))) (by show 4 ≤ 100000; decide)
      have hxs8 : H8 l = some (.lst xs) := f8.a _ _ (f7.a _ _ hxs)
      have f8' : Fw Hs' H' Hs6 H8 := f7.trans (Fw.skip f7.c f8.a)
      have xlen : xs.length = i := by rw [dps_len hd, List.length_map, List.length_map, List.length_range]
      refine y_app (Hs := Hs6) hxs8 f8'.c (fun H1 e Q q => ⟨_, rfl, q H1 (Ex.refl _)⟩) ed (by omega) fun v9 Hs9 H9 f9 hv9 => ?_
      have n9 : Hs9 l = none := f9.d _ _ hxs8 (f8'.d _ _ hxs hn)
      have mm : Fm Hs' H' Hs9 (upd H9 l (.lst (xs ++ [v9]))) := (f8'.m.trans f9.m).trans (Fm.mut f9.c n9)
      refine hN _ Hs9 _ mm ⟨_, _, _, _, _, xs ++ [v9], rfl, upd_same, n9, Ex.mut (hxH.trans (f8'.a.trans f9.a)) hl0, hex.trans mm.b, ?_⟩
      rw [List.range_succ, List.map_append, List.map_append]
      refine dps_app (dps_ex mm.b hd) (dps_one ?_)
      show Dp K Hs9 v9 (dStp (lmStep sc kinds many i))
      unfold lmStep dStp
      rw [hkk]
      exact hv9
    · obtain ⟨z7, z8, z9, z10, z11, xs, rfl, hxs, hn, hxH, hex, hd⟩ := iv
      dsimp only
      have eret : EvD K (tTup (tCons (tVar 5) (tCons (tVar 6) tNil))) [some x, some (.int 0), some (.int 4), some kv, some wv, some (.int many), some (.ref l), z7, z8, z9, z10, z11] (upd Hs' l (.lst xs)) (.tuple [.int many, .list ((lmRaw sc kinds).map dStp)]) :=
        evd_tup (ead_cons (evd_int (ev_var (i := 5) rfl)) (ead_cons (evd_var (i := 6) (v := .ref l) rfl (.lst (sq_of upd_same) (dps_ex (Ex.new hn) (by unfold lmRaw; rw [hM]; exact hd)))) ead_nil)) (by show 2 ≤ 100000; decide)
      have eb : Ex (upd Hs' l (.lst xs)) H' := fun b u hb => by
        by_cases q : b = l
        · subst q; rw [upd_same] at hb; rw [← hb]; exact hxs
        · rw [upd_ne q] at hb; exact f.c b u hb
      refine y_ret eret eb fun v Hs9 H9 f9 hv9 => ?_
      refine kQ _ Hs9 _ ?_ hv9
      refine ⟨f1.a.trans (hxH.trans f9.a), f1.b.trans (hex.trans ((Ex.new hn).trans f9.b)), f9.c, fun y o hy hn' => ?_⟩
      have h1 := f1.a _ _ hy
      have yl : y ≠ l := ne_of_none h1 hl0
      have n1 := f1.d y o hy hn'
      have n2 := f.d y o (f2.a _ _ h1) n1
      exact f9.d y o (hxH _ _ h1) (by rw [upd_ne yl]; exact n2)
end
end K02
set_option Elab.async false
set_option linter.all false
set_option maxRecDepth 100000
set_option maxHeartbeats 2000000
/-! ### the law's _law_some, _law_falls, _law_below -/
namespace K02
open PySem PySem.Spec PyProof.Rows L2 Evl
def someL (s : List Int) (n : Nat) : List Int := ((List.range n).filter fun i => decide (drawI s (300 + i) 3 = 0)).map fun i : Nat => (i : Int)
def rSome (K : PySem.W.Frag) : List V → Hp → PyData → Prop := fun vs Hs d => ∃ (x : V) (s : List Int) (n : Nat), vs = [x, .int 300, .int (n : Int)] ∧ Dp K Hs x (.list (s.map .int)) ∧ s.length ≤ 1000 ∧ n ≤ 1000 ∧ d = .tuple ((someL s n).map .int)
def rLFalls (K : PySem.W.Frag) : List V → Hp → PyData → Prop := fun vs Hs d => ∃ (x k : V) (r : List Stp) (kinds : List Str), vs = [x, k] ∧ Dp K Hs x (dRun r) ∧ Dp K Hs k (.list (kinds.map .str)) ∧ r.length ≤ 1000 ∧ kinds.length ≤ 1000 ∧ d = dV (fallsOf kinds r)
def rLBelow (K : PySem.W.Frag) : List V → Hp → Bool → Prop := fun vs Hs b => ∃ (x y : V) (v u : Vec), vs = [x, y] ∧ Dp K Hs x (dV v) ∧ Dp K Hs y (dV u) ∧ v.length ≤ 1000 ∧ b = below v u
section
variable {P : Program} {w : World} {K : PySem.W.Frag} {mg : Str → Option Value} {base : Heap} {σ : L2.St} {H : Hp} {ta tb tc te : TE}
abbrev NWS : List Str := ["_law_script", "_law_at", "_law_many", "_law_state"]
theorem scLS : FnScope NWS ["_law_script", "_law_at", "_law_many"] (defScope lSome) := ⟨rfl, rfl, rfl, by decide +kernel, rfl, by decide +kernel, by decide +kernel⟩
theorem ok_some (T : G K mg) : Ok P w K mg base CX0 2 (He.ga K "_law_some") ["_law_script", "_law_at", "_law_many"] (spD K (rSome K)) := by
  obtain ⟨fd, F⟩ := T.fun0 29
  obtain ⟨fdD, GD, bD, kD⟩ := ok_draw (P := P) (w := w) (base := base) T
  refine ok_of F scLS (fun vs H Q E h => ?_) (fun _ _ _ _ _ _ us hl => match us, hl with | [_, _, _], _ => rfl) fun cdv A outer s H vs Q E hr h => ?_
  · obtain ⟨_, _, _, ⟨_, _, _, rfl, _⟩, _⟩ := h
    rfl
  · obtain ⟨Hs, d, eH, ⟨x, sc, n, rfl, hx, hl, hn, rfl⟩, kQ⟩ := h
    refine ⟨_, pss_one (ps_ret (pe_callTy call_tuple_of rfl (T.fr "tuple") (by decide +kernel) (pa_cons
        (pe_lc (own := [("_law_state", 3)]) (g := gName 3) (tt := tTest (tOp rEq (tCall (spD K (rDraw K)) [] E0 (tCons (tVar 0) (tCons (tOp (rI0 fun i j => .int (i + j)) (tVar 1) (tVar 3)) (tCons (tC (.int 3)) tNil)))) (tC (.int 0)))) (te := tVar 3) rfl scLS.nd (pi_range1 rfl (T.fr "range") (pa_cons (pv 2) pa_nil)) (blkOk_by (N := NWS) (sc := defScope lSome) (by decide +kernel))
          (fun _ _ _ _ _ => pg_name (i := 3) scLS.nd rfl (Or.inl rfl)) (fun _ _ _ _ _ => pts_one (pt_cmpR op_eq (pe_call GD hr rfl (T.gl "_law_draw") kD bD .nil pass0 (pa_cons (pv 0) (pa_cons (pe_op op_add (pv 1) (pv 3)) (pa_cons pe_int pa_nil)))) pe_int (nomark _)))
          (fun _ _ _ _ _ => pv 3)) pa_nil))), ?_⟩
    have key := evd_lcA (K := K) (σ := start NWS [x, .int 300, .int (n : Int)]) (H := Hs) (te := tVar 3) (tt := tTest (tOp rEq (tCall (spD K (rDraw K)) [] E0 (tCons (tVar 0) (tCons (tOp (rI0 fun i j => .int (i + j)) (tVar 1) (tVar 3)) (tCons (tC (.int 3)) tNil)))) (tC (.int 0)))) (vs := [3]) (g := gName 3) (List.range n) (fun i => decide (drawI sc (300 + i) 3 = 0)) (fun i => .int (i : Int))
      ((wk_range (j := 3) (ea_cons (ev_var (i := 2) (v := .int (n : Int)) rfl) ea_nil) (by omega)).cast (by rw [List.length_range])) (by rw [List.length_range]; omega) fun i a σ2 H' hi ex hS => by
        obtain ⟨u, rfl, rfl⟩ := hS
        have ea : a = i := by
          rw [List.getElem?_range (by have := (List.getElem?_eq_some_iff.mp hi).1; rw [List.length_range] at this; exact this)] at hi
          exact (Option.some.inj hi).symm
        subst ea
        have hlt : a < n := by have := (List.getElem?_eq_some_iff.mp hi).1; rw [List.length_range] at this; exact this
        refine ⟨rfl, et_test (ev_eqI (ev_draw (K := K) (a := 300 + a) (many := 3) (evd_var (i := 0) (v := x) rfl (dp_ex ex hx)) (ev_add (ev_var (i := 1) (v := .int 300) rfl) (ev_var (i := 3) (v := .int (a : Int)) rfl)) (ev_c (v := .int 3)) hl (by omega) (by decide)) (ev_c (v := .int 0))), fun _ => evd_var (i := 3) (v := .int (a : Int)) rfl (.int _)⟩
    refine y_ret (evd_tupleOf key) eH fun v Hs1 H1 f1 hv => kQ v Hs1 H1 f1 ?_
    unfold someL
    rw [List.map_map]
    exact hv
abbrev NWF : List Str := ["_law_run", "_law_kinds", "_law_kind", "_law_step"]
theorem scWF : FnScope NWF ["_law_run", "_law_kinds"] (defScope lFalls) := ⟨rfl, rfl, rfl, by decide +kernel, rfl, by decide +kernel, by decide +kernel⟩
theorem ok_lFalls (T : G K mg) : Ok P w K mg base CX0 1 (He.ga K "_law_falls") ["_law_run", "_law_kinds"] (spD K (rLFalls K)) := by
  obtain ⟨fd, F⟩ := T.fun0 33
  refine ok_of F scWF (fun vs H Q E h => ?_) (fun _ _ _ _ _ _ us hl => match us, hl with | [_, _], _ => rfl) fun cdv A outer s H vs Q E hr h => ?_
  · obtain ⟨_, _, _, ⟨_, _, _, _, rfl, _⟩, _⟩ := h
    rfl
  · obtain ⟨Hs, d, eH, ⟨x, k, r, kinds, rfl, hx, hk, hz, hz2, rfl⟩, kQ⟩ := h
    refine ⟨_, (pss_one (ps_ret (pe_callTy call_tuple_of rfl (T.fr "tuple") (by decide +kernel) (pa_cons
        (pe_lc (own := [("_law_kind", 2)]) (g := gName 2) (tt := tYes) (te := tCB (fun xs H Q => ∃ p ys, xs = [.ref p] ∧ (SqL K H p ys ∨ SqT K H p ys) ∧ Q (.int ys.length) H) (tCons (tLc (iList K (tVar 0)) (gName 3) (tTest (tOp rEq (tOp (rIxT K) (tVar 3) (tC (.int 1))) (tVar 2))) (tC (.int 1)) [3]) tNil)) rfl scWF.nd (pi_list (pv 1)) (blkOk_by (N := NWF) (sc := defScope lFalls) (by decide +kernel))
          (fun _ _ _ _ _ => pg_name (i := 2) scWF.nd rfl (Or.inr rfl)) (fun _ _ _ _ _ => pts_nil)
          (fun _ _ _ _ _ => pe_callB call_len_seq rfl (T.fr "len") (by decide +kernel) (pa_cons
            (pe_lc (own := [("_law_step", 3)]) (g := gName 3) (tt := tTest (tOp rEq (tOp (rIxT K) (tVar 3) (tC (.int 1))) (tVar 2))) (te := tC (.int 1)) rfl scWF.nd (pi_list (pv 0)) (blkOk_by (by rfl))
              (fun _ _ _ _ _ => pg_name (i := 3) scWF.nd rfl (Or.inl rfl)) (fun _ _ _ _ _ => pts_one (pt_cmpR op_eq (pe_ix ix_tup (pv 3) pe_int (fun _ _ => rfl)) (pv 2) (nomark _))) (fun _ _ _ _ _ => pe_int)) pa_nil))) pa_nil)))), ?_⟩
    exact y_ret (evd_falls (K := K) (σ := start NWF [x, k]) (H := Hs) (j := 2) (k := 3) (tr := tVar 0) (evd_var (i := 1) (v := k) rfl hk) (fun u H3 e3 => evd_var (i := 0) (v := x) rfl (dp_ex e3 hx)) hz2 hz (fun _ => rfl) (fun _ _ => rfl) (fun _ _ => rfl) fun _ _ => rfl) eH fun v Hs3 H3 f3 hv => kQ v Hs3 H3 f3 hv
abbrev NWB : List Str := ["_law_one", "_law_other", "_law_a", "_law_b"]
theorem scWB : FnScope NWB ["_law_one", "_law_other"] (defScope lBelow) := ⟨rfl, rfl, rfl, by decide +kernel, rfl, by decide +kernel, by decide +kernel⟩
/-- all([a <= b for a, b in zip(x, y)]) -/
abbrev tAllLe (K : PySem.W.Frag) (j k : Nat) (x y : TE) : TE := tCB (rAll K) (tCons (tLc (iZipM K (tCons x (tCons y tNil))) (g2 K j k) tYes (tOp (rI0 fun i j => .bl (decide (i ≤ j))) (tVar j) (tVar k)) [j, k]) tNil)
theorem ev_allLe {j k : Nat} {x y : TE} {p q : Bool} {v u : Vec} (hx : EvD K x σ H (dSeq p (v.map .int))) (hy : EvD K y σ H (dSeq q (u.map .int))) (hz : v.length ≤ 1000) (hw : ∀ a b, wipe (((wipe σ [j, k]).set j (some a)).set k (some b)) [j, k] = wipe σ [j, k])
    (hj : ∀ a b, (((wipe σ [j, k]).set j (some a)).set k (some b))[j]? = some (some a)) (hk : ∀ a b, (((wipe σ [j, k]).set j (some a)).set k (some b))[k]? = some (some b)) : Ev (tAllLe K j k x y) σ H (.bl (below v u)) := by
  have key := evd_lcM (K := K) (vs := [j, k]) (te := tOp (rI0 fun i j => .bl (decide (i ≤ j))) (tVar j) (tVar k)) (v.zip u) (fun p => PyData.bool (decide (p.1 ≤ p.2))) (wk_zipA v u .int .int (j := j) (k := k) (ead_cons hx (ead_cons hy ead_nil))) (by rw [List.length_zip]; omega) fun i a σ2 H' hi e hS => by
    obtain ⟨z, z', ⟨a1, b1, e1, p1, p2⟩, rfl⟩ := hS
    rw [hi] at e1
    cases e1
    have q1 := dp_int p1
    have q2 := dp_int p2
    subst q1 q2
    exact ⟨hw _ _, evd_bl (ev_le (ev_var (hj _ _)) (ev_var (hk _ _)))⟩
  have em : (v.zip u).map (fun p => PyData.bool (decide (p.1 ≤ p.2))) = ((v.zip u).map fun p => decide (p.1 ≤ p.2)).map PyData.bool := by
    rw [List.map_map]
    rfl
  rw [em] at key
  have e2 : (((v.zip u).map fun p => decide (p.1 ≤ p.2)).all id) = below v u := by
    rw [List.all_map]
    rfl
  have r := ev_all key
  rw [e2] at r
  exact r
theorem ok_lBelow (T : G K mg) : Ok P w K mg base CX0 1 (He.ga K "_law_below") ["_law_one", "_law_other"] (spB K (rLBelow K)) := by
  obtain ⟨fd, F⟩ := T.fun0 34
  refine ok_of F scWB (fun vs H Q E h => ?_) (fun _ _ _ _ _ _ us hl => match us, hl with | [_, _], _ => rfl) fun cdv A outer s H vs Q E hr h => ?_
  · obtain ⟨_, _, _, ⟨_, _, _, _, rfl, _⟩, _⟩ := h
    rfl
  · obtain ⟨Hs, b, eH, ⟨x, y, v, u, rfl, hx, hy, hz, rfl⟩, kQ⟩ := h
    refine ⟨_, pss_one (ps_ret (pe_callB (cr_all rfl) rfl (T.fr "all") (by decide +kernel) (pa_cons (pe_lc (own := [("_law_a", 2), ("_law_b", 3)]) (g := g2 K 2 3) (tt := tYes) rfl scWB.nd
      (pi_zipM rfl (T.fr "zip") (pa_cons (pv 0) (pa_cons (pv 1) pa_nil))) (blkOk_by (N := NWB) (sc := defScope lBelow) (by decide +kernel))
      (fun _ _ _ _ _ => pg_tup rfl (pgs_cons (pg_name (i := 2) scWB.nd rfl (Or.inl rfl)) (pgs_cons (pg_name (i := 3) scWB.nd rfl (Or.inl rfl)) pgs_nil)))
      (fun _ _ _ _ _ => pts_nil) (fun _ _ _ _ _ => pe_cmpR op_le (pv 2) (pv 3) (nomark _))) pa_nil))), ?_⟩
    exact ev_allLe (K := K) (σ := start NWB [x, y]) (p := true) (q := true) (evd_var (i := 0) (v := x) rfl hx) (evd_var (i := 1) (v := y) rfl hy) hz (fun _ _ => rfl) (fun _ _ => rfl) (fun _ _ => rfl) H eH _ fun H2 e => kQ H2 e
end
end K02
set_option Elab.async false
set_option linter.all false
set_option maxRecDepth 100000
set_option maxHeartbeats 2000000
/-! ### {(..): v}, (0,) * n for small n -/
namespace K02
open PySem PySem.Spec PyProof.Rows L2 Evl
/-- {k: v}, k a tuple -/
def tDisp1N (K : PySem.W.Frag) (P : Program) (w : World) (tk tv : TE) : TE := fun σ H Q => ∀ p, H p = none → tk σ (upd H p (NdO P w p [])) fun y H1 => tv σ H1 fun z H2 => ∃ k b, y = .ref b ∧ H2 p = some (NdO P w p []) ∧ Dp K H2 (.ref b) k.data ∧ k.depth ≤ 8 ∧ Q (.ref p) (upd H2 p (NdO P w p [(k, b, z)]))
section
variable {X : Cx} {K : PySem.W.Frag} {mg : Str → Option Value} {base : Heap} {σ : L2.St} {H : Hp} {ta tb tc te : TE}
theorem pe_disp1N {ek ev : Expr} {pos : Pos} {tk tv : TE} (hu : X.A.units + 64 < cLine) (hk : PE X ek tk) (hv : PE X ev tv) : PE X (.Dict [some ek] [ev] pos) (tDisp1N X.K X.prog X.w tk tv) := by
  refine ⟨fun pins s σ H Q I q => ?_⟩
  have hn := I.hok.fresh (Nat.le_refl s.heap.objs.size)
  have I1 := I.laid (a := s.heap.objs.size) (o := NdO X.prog X.w s.heap.objs.size []) (h' := s.heap.push { cls := .type "dict", data := .dict #[] }) (t' := s.toks) (fun _ _ q => Heap.get?_push_of_some _ q) (Nat.le_refl _) (ndO_ok (nd_empty s.heap I.big))
  have ps := pps_cons (pos := pos) hk hv (pps_nil (X := X) (pos := pos))
  refine wpAny_Dict_any rfl rfl (by simp) (by show 1 ≤ 15; decide) (thn (ps.run pins _ σ _ (fun vs H2 => match vs with
    | [(y, z)] => ∃ k b, y = .ref b ∧ H2 s.heap.objs.size = some (NdO X.prog X.w s.heap.objs.size []) ∧ Dp X.K H2 (.ref b) k.data ∧ k.depth ≤ 8 ∧ Q (.ref s.heap.objs.size) (upd H2 s.heap.objs.size (NdO X.prog X.w s.heap.objs.size [(k, b, z)]))
    | _ => False) I1 (q _ hn)) fun ws s2 h2 => ?_)
  obtain ⟨ps, H2, I2, rel, h2⟩ := h2
  cases rel with
  | nil => exact h2.elim
  | @cons p0 w0 l m r t =>
    cases t with
    | cons _ _ => exact h2.elim
    | nil =>
      obtain ⟨k, b, e0, hp, h1, h3, q2⟩ := h2
      obtain ⟨y, z⟩ := p0
      obtain ⟨u1, u2⟩ := w0
      obtain ⟨r1, r2⟩ := r
      dsimp only at e0
      subst e0
      obtain rfl : u1 = Value.ref b := r1
      obtain ⟨ys, p, dd, z0, m⟩ := nd_dict I2 (.inl hp) (fun y hy => by cases hy)
      unfold storeAll
      rw [List.forIn_cons]
      refine wpAny_bind (wpAny_bind (wpAny_dictSet_heap (hsz := by rw [← Paired.length p]; exact z0) (by show X.A.units + 8 < cLine; omega) (nd_key I2 h1 h3) dd fun h' dd' sb => ?_))
      refine wpAny_pure ?_
      refine wpAny_pure ?_
      exact ⟨.ref s.heap.objs.size, _, nd_write I2 hp m dd' (ndPut_rel p k b r2) (by show 1 ≤ sizeLine; decide) sb, rfl, q2⟩
theorem tuple_mul0 (l : Addr) (items : Array Value) (n : Nat) (dd : Option Addr) (sl : Array (Option Value)) (u : Tok) (c1 : (items.isEmpty || (0 : Int) == 1) = false) (c2 : (decide ((0 : Int) ≤ 0) || items.isEmpty) = true) :
    Meets (Builtin.«tuple.__mul__» ⟨[.ref l, .int 0 u], []⟩) (fun _ R s => s.heap.get? l = some { cls := .type "tuple", dict := dd, data := .seq items n, slots := sl } ∧
      R (.ok (.ret (Value.ref s.heap.objs.size))) { s with heap := s.heap.push { cls := Value.type "tuple", data := Data.seq #[] }, toks := s.toks }) :=
  .of_wp fun prog w A R s h => by
    obtain ⟨hp, g, d, tk, os⟩ := s
    obtain ⟨hl, h⟩ := h
    have f1 := AutoSeq1.idx_int
    wp_walk using wpAny_loadPart' hl
    repeat (first
      | (refine wpAny_ite_false (decide_eq_false (by rw [c1]; exact Bool.false_ne_true)) ?_; wp_walk using wpAny_loadPart' hl)
      | (refine wpAny_ite_true (decide_eq_true (by rw [c2])) ?_; wp_walk using wpAny_loadPart' hl)
      | (refine wpAny_ite_false (decide_eq_false (by decide)) ?_; wp_walk using wpAny_loadPart' hl))
    exact ⟨_, rfl, h⟩
theorem tuple_mul1 (l : Addr) (items : Array Value) (n : Nat) (dd : Option Addr) (sl : Array (Option Value)) (u : Tok) (c1 : (items.isEmpty || (1 : Int) == 1) = true) :
    Meets (Builtin.«tuple.__mul__» ⟨[.ref l, .int 1 u], []⟩) (fun _ R s => s.heap.get? l = some { cls := .type "tuple", dict := dd, data := .seq items n, slots := sl } ∧ R (.ok (.ret (Value.ref l))) s) :=
  .of_wp fun prog w A R s h => by
    obtain ⟨hp, g, d, tk, os⟩ := s
    obtain ⟨hl, h⟩ := h
    have f1 := AutoSeq1.idx_int
    wp_walk using wpAny_loadPart' hl
    repeat (first
      | (refine wpAny_ite_true (decide_eq_true (by rw [c1])) ?_; wp_walk using wpAny_loadPart' hl)
      | (refine wpAny_ite_false (decide_eq_false (by decide)) ?_; wp_walk using wpAny_loadPart' hl))
    exact ⟨_, rfl, h⟩
/-- (v,) * n -/
def rRepN (K : PySem.W.Frag) : R2 := fun x y H Q => ∃ (l : Addr) (n : Nat) (v : V), x = .ref l ∧ y = .int (n : Int) ∧ SqT K H l [v] ∧ n ≤ 1000 ∧ (n = 1 → Q (.ref l) H) ∧ ∀ p, H p = none → Q (.ref p) (upd H p (.tup (List.replicate n v)))
theorem flat_rep1 (v : V) : ∀ n : Nat, (List.replicate n [v]).flatten = List.replicate n v
  | 0 => rfl
  | n + 1 => by rw [List.replicate_succ, List.flatten_cons, flat_rep1 v n]; rfl
theorem op_repN : OpR X (binaryOp .Mult) (rRepN X.K) := by
  intro pins s σ H x y v u Q I rx ry h
  obtain ⟨l, n, v0, rfl, rfl, hT, hn, q1, q2⟩ := h
  by_cases h2 : 2 ≤ n
  · exact op_repT pins s σ H _ _ v u Q I rx ry ⟨l, n, [v0], rfl, rfl, hT, by simp, by omega, by omega, by show 1 ≤ 1000; decide, fun p hp => by
      rw [Int.toNat_natCast, flat_rep1]
      exact q2 p hp⟩
  · cases rx
    obtain ⟨t, rfl⟩ := ry
    obtain ⟨its, r, ⟨⟨cls, dd, data, sl⟩, ho, hc, n0, hd⟩, hs⟩ := I.tuple hT
    simp only at hc hd
    subst hc hd
    have hi : its.toArray.isEmpty = false := by
      cases r with
      | cons a b => rfl
    rcases (show n = 0 ∨ n = 1 by omega) with e | e
    · subst e
      refine wpAny_binaryOp_repeat_ref (T := "tuple") (U := "int") (by decide) ⟨_, ho, rfl⟩ (fun s' => typeIs_int s' _ t) noFill_tuple_mul F.fills_int_mul F.slot_int_rmul repeat_tuple F.slot_int_index.lookup
        (call_meets F.slot_int_rmul (typeIs_int s _ t) F.entry_int_rmul (F.args_int_rmul_2 _ _) (int_rmul_tuple _ t l its.toArray n0 dd sl)
          ⟨ho, rfl, ⟨_, ho, rfl⟩, call_meets F.slot_tuple_mul ⟨_, ho, rfl⟩ F.entry_tuple_mul (F.args_tuple_mul_2 _ _) (tuple_mul0 l its.toArray n0 dd sl t (by rw [hi]; rfl) (by rw [hi]; rfl)) ⟨ho, ?_⟩⟩)
      refine ⟨.ref s.heap.objs.size, _, I.laid (t' := s.toks) (o := .tup []) (fun b ob q => Heap.get?_push_of_some _ q) (Nat.le_refl _) ?_, rfl, q2 _ (I.hok.fresh (Nat.le_refl _))⟩
      exact ⟨Nat.zero_le _, [], .nil, IsTup.new _ _⟩
    · subst e
      refine wpAny_binaryOp_repeat_ref (T := "tuple") (U := "int") (by decide) ⟨_, ho, rfl⟩ (fun s' => typeIs_int s' _ t) noFill_tuple_mul F.fills_int_mul F.slot_int_rmul repeat_tuple F.slot_int_index.lookup
        (call_meets F.slot_int_rmul (typeIs_int s _ t) F.entry_int_rmul (F.args_int_rmul_2 _ _) (int_rmul_tuple _ t l its.toArray n0 dd sl)
          ⟨ho, rfl, ⟨_, ho, rfl⟩, call_meets F.slot_tuple_mul ⟨_, ho, rfl⟩ F.entry_tuple_mul (F.args_tuple_mul_2 _ _) (tuple_mul1 l its.toArray n0 dd sl t (by rw [hi]; rfl)) ⟨ho, ?_⟩⟩)
      exact ⟨.ref l, H, I, rfl, q1 rfl⟩
theorem dps_rep {v : V} {d : PyData} (h : Dp K H v d) : ∀ n : Nat, DpAll K H (List.replicate n v) (List.replicate n d)
  | 0 => .nil
  | n + 1 => .cons h (dps_rep h n)
theorem evd_repN0 {n : Nat} (hn : Ev tb σ H (.int (n : Int))) (hz : n ≤ 1000) : EvD K (tOp (rRepN K) (tTup (tCons (tC (.int 0)) tNil)) tb) σ H (dV (List.replicate n 0)) := fun Hs H1 a b Q q =>
  (evd_tup (K := K) (σ := σ) (ead_cons (evd_c (.int 0)) ead_nil) (by decide)) Hs H1 a b _ fun v Hs2 H2 f p => hn H2 (a.trans (f.b.trans f.c)) _ fun H3 e3 => by
    obtain ⟨l, xs, rfl, hs, ht⟩ := dp_tup p
    obtain ⟨x, rfl, hx⟩ := dps1 ht
    have f3 := f.trans (Fw.skip f.c e3)
    refine ⟨l, n, x, rfl, rfl, ex_t (f.c.trans e3) hs, hz, fun e => ?_, fun p hp => ?_⟩
    · subst e
      exact q _ _ _ f3 (.tup hs (.cons hx .nil))
    · refine q _ _ _ (f3.trans (Fw.new f3.c hp)) ?_
      unfold dV
      rw [List.map_replicate]
      exact .tup (st_of upd_same) (dps_ex (Fw.new f3.c hp).b (dps_rep hx n))
end
end K02
set_option Elab.async false
set_option linter.all false
set_option maxRecDepth 100000
set_option maxHeartbeats 2000000
/-! ### list(d), for k in d: d with tuple keys -/
namespace K02
open PySem PySem.Spec PyProof.Rows L2 Evl
section
variable {X : Cx} {pins : List (Addr × Obj)} {σ : L2.St} {H : Hp} {s : Shared} {d : Addr} {xs : NX} {o : Obj}
theorem nd_raw (h : NdR X.prog X.w d xs s.heap) : (d == sysModules) = false ∧ xs.length ≤ sizeLine ∧ ∃ o es ep, s.heap.get? d = some o ∧ o.ExactDict ∧ o.data = .dict es ep ∧ es.size = xs.length ∧ ∀ (i : Nat) (e : NestedKey × Addr × V), xs[i]? = some e → ∃ en : DictEntry, es[i]? = some en ∧ en.key = .ref e.2.1 := by
  obtain ⟨z, m, ys, p, n, o, es, ep, e, r1, r2, r3⟩ := h
  refine ⟨m, z, o, es, ep, e, r1, r2, ?_, fun i x hx => ?_⟩
  · have l1 : es.size = ys.length := size_of_entries r3
    have l2 : xs.length = ys.length := Paired.length p
    omega
  · obtain ⟨b, hb, e1, e2, _⟩ := paired_get p hx
    have q := entry_at r3 i
    rw [hb] at q
    exact ⟨_, q, by rw [e2]; rfl⟩
theorem nd_rd (I : Inv X pins σ H s) (hd : Rd H d (NdO X.prog X.w d xs)) : NdR X.prog X.w d xs s.heap := by
  obtain ⟨q, -⟩ := (show ObjOk X.prog X.w H s.heap d (NdO X.prog X.w d xs) from hd.ok I.hok)
  exact q
theorem nd_frz (I : Inv X pins σ H s) (hd : H d = some (.frz o (NdO X.prog X.w d xs))) : (d == sysModules) = false ∧ s.heap.get? d = some o ∧ o.ExactDict ∧ ∃ es ep, o.data = .dict es ep ∧ es.size = xs.length ∧ ∀ (i : Nat) (e : NestedKey × Addr × V), xs[i]? = some e → ∃ en : DictEntry, es[i]? = some en ∧ en.key = .ref e.2.1 := by
  obtain ⟨e, -⟩ := (show ObjOk X.prog X.w H s.heap d (.frz o (NdO X.prog X.w d xs)) from I.hok d _ hd)
  obtain ⟨m, z, o', es, ep, ho, h2, h3, h4, h5⟩ := nd_raw (nd_rd I (.inr ⟨o, hd⟩))
  rw [e] at ho
  cases ho
  exact ⟨m, e, h2, es, ep, h3, h4, h5⟩
theorem call_list_dN (hc : X.calm = true) : CallR X (.type "list") (fun zs H Q => ∃ d xs, zs = [V.ref d] ∧ Rd H d (NdO X.prog X.w d xs) ∧ ∀ p, H p = none → Q (.ref p) (upd H p (.lst (xs.map fun x => V.ref x.2.1)))) := by
  intro pins s σ H zs us Q I r h
  obtain ⟨d, xs, rfl, hd, q⟩ := h
  obtain ⟨u, rfl, rx⟩ := r.one
  cases rx
  obtain ⟨hs, z, o, es, ep, ho, hx, hdt, hsz, ent⟩ := nd_raw (nd_rd I hd)
  refine PySem.W.kdl_call (kdl_raw hs hx hdt) (I.ok.hd hc) ho (by omega) fun h' tk acc' c' kp e it => ?_
  have ea : acc'.toList = xs.map fun x => Value.ref x.2.1 := by
    have hl : acc'.toList.length = xs.length := by rw [Array.length_toList, it.1]; exact hsz
    apply List.ext_getElem?
    intro j
    rw [List.getElem?_map]
    cases hj : xs[j]? with
    | none =>
      have h1 := List.getElem?_eq_none_iff.mp hj
      rw [List.getElem?_eq_none (by omega)]
      rfl
    | some b =>
      have hlt := (List.getElem?_eq_some_iff.mp hj).1
      have hj2 : acc'.toList[j]? = some acc'.toList[j] := List.getElem?_eq_getElem (by omega)
      obtain ⟨en, hen, hv⟩ := it.2 j _ (by rw [← Array.getElem?_toList]; exact hj2)
      obtain ⟨en', hen', hk⟩ := ent j b hj
      rw [hen] at hen'
      cases hen'
      rw [hj2, hv, hk]
      rfl
  have eb : acc'.toList = (xs.map fun x => x.2.1).map Value.ref := by rw [ea, List.map_map]; rfl
  have rv : Vals ((xs.map fun x => x.2.1).map V.ref) acc'.toList := by rw [eb]; exact vals_refs _
  have rv' : Vals (xs.map fun x => V.ref x.2.1) acc'.toList := by
    have e : (xs.map fun x => x.2.1).map V.ref = xs.map fun x => V.ref x.2.1 := by rw [List.map_map]; rfl
    rw [← e]; exact rv
  refine ⟨.ref s.heap.objs.size, _, I.laid (t' := tk) (o := .lst (xs.map fun x => V.ref x.2.1)) kp (Nat.le_refl _) ?_, rfl, q _ (I.hok.fresh (Nat.le_refl _))⟩
  exact ⟨by rw [List.length_map]; exact z, acc'.toList, c', rv', by rw [Array.toArray_toList]; exact e⟩
def ItN (P : Program) (w : World) (d : Addr) (o : Obj) (xs : NX) : It :=
  ⟨fun i H => H d = some (.frz o (NdO P w d xs)) ∧ i < xs.length, fun i H x H' => H' = H ∧ ∃ e, xs[i]? = some e ∧ x = .ref e.2.1, fun i H => H d = some (.frz o (NdO P w d xs)) ∧ xs.length ≤ i⟩
theorem turn_keysN {P : Program} {w : World} {K : PySem.W.Frag} {tg : Expr} {es : Array DictEntry} {ep : Nat} (it : Addr) (hod : o.data = .dict es ep) : Turn P w K tg (ItN P w d o xs) [it] it (fun i h => h.IsKeyIter it d i xs.length ep) where
  mem := by simp
  obj := fun i h st b hb => by
    have e : b = it := by simpa using hb
    subst e
    obtain ⟨oi, e, c, dd⟩ := st
    exact ⟨oi, e, fun v z => by rw [dd] at z; cases z⟩
  keep := fun i h h' st k => st.at fun oi e => k it (by simp) oi e
  item := by
    intro X hP hw hK hc i pins s σ H E I hf st hg
    subst hP hw hK
    obtain ⟨hd, hi⟩ := hg
    obtain ⟨f0, f1, f2, f3, f4, f5⟩ := hf it (by simp)
    obtain ⟨hs, hgd, hx, es', ep', hdt, hsz, ent⟩ := nd_frz I hd
    obtain ⟨rfl, rfl⟩ := dict_ep hod hdt
    obtain ⟨e0, hkv⟩ : ∃ p, xs[i]? = some p := ⟨xs[i], List.getElem?_eq_getElem hi⟩
    obtain ⟨en, hen, hkey⟩ := ent i e0 hkv
    refine next_key_item st hgd hdt hsz hen fun h' st' sb => ?_
    have I1 : Inv X pins σ H { s with heap := h' } := I.turned (t' := s.toks) (fun b ob hb e => (sb.2 b hb).trans e) f0 f1 f3 f4 f5
    obtain ⟨oi, e, c, dd⟩ := id st'
    exact ⟨en.key, rfl, go_of (s := { s with heap := h' }) e c dd (by decide) ⟨.ref e0.2.1, H, I1, hkey, ⟨rfl, e0, hkv, rfl⟩, st', fun b hb => (hf b hb).1⟩⟩
  done := by
    intro X hP hw hK hc i pins s σ H E I hf st hg
    subst hP hw hK
    obtain ⟨hd, hi⟩ := hg
    obtain ⟨f0, f1, f2, f3, f4, f5⟩ := hf it (by simp)
    obtain ⟨hs, hgd, hx, es', ep', hdt, hsz, ent⟩ := nd_frz I hd
    obtain ⟨rfl, rfl⟩ := dict_ep hod hdt
    exact next_key_end (I.ok.hd hc) st hgd hdt hsz hi fun h' eb => ⟨rfl, I.turned (t' := s.toks) (fun b ob hb e => eb b ob hb e) f0 f1 f3 f4 f5⟩
  self := fun A i s Q E st h => by
    refine wpAny_pyIter_slot st.typeIs F.slot_dict_keyiterator_iter (wpAny_call_entry F.slot_dict_keyiterator_iter st.typeIs F.entry_dict_keyiterator_iter ?_ (F.args_dict_keyiterator_iter_1 _))
    show wpAny _ _ (ret (.ref it)) _ _ s
    exact wpAny_pure ⟨_, rfl, "dict_keyiterator", _, st.typeIs, F.slot_dict_keyiterator_next.lookup, h⟩
def iKeysN (P : Program) (w : World) (td : TE) : TI := fun σ H R => td σ H fun x H1 => ∃ d o xs, x = .ref d ∧ H1 d = some (.frz o (NdO P w d xs)) ∧ R (ItN P w d o xs) H1
theorem pi_keysN {tg e : Expr} {td : TE} (he : PE X e td) : PI X tg e (iKeysN X.prog X.w td) := by
  refine ⟨fun pins s σ H R I h => ?_⟩
  refine thn (he.run pins s σ H _ I h) fun u s1 ⟨x, H1, I1, rx, d, o, xs, ex, hd, q⟩ => ?_
  subst ex
  obtain rfl : u = Value.ref d := rx
  obtain ⟨hs, hgd, hx, es, ep, hdt, hsz, ent⟩ := nd_frz I1 hd
  refine iter_keys hs hgd hx hdt (pi_one (tk := s1.toks) I1 _ (turn_keysN _ hdt) ⟨_, Heap.get?_push_size _ rfl, rfl, ?_⟩ q)
  rw [hsz] <;> rfl
end
end K02
set_option Elab.async false
set_option linter.all false
set_option maxRecDepth 100000
set_option maxHeartbeats 2000000
/-! ### the law's _law_run_right -/
namespace K02
open PySem PySem.Spec PyProof.Rows L2 Evl
def rNotInT (K : PySem.W.Frag) : R2 := fun x y H Q => ∃ (d : PyData) (ds : List PyData), Dp K H x d ∧ Dp K H y (.tuple ds) ∧ SeqAt.shaped d = true ∧ SeqAt.shaped (.list ds) = true ∧ Q (.bl (!ds.any fun z => PyData.eqv z d)) H
theorem op_notInT {X : Cx} (hu : X.A.units + 65 < cLine) : OpR X (compareOp .NotIn) (rNotInT X.K) := by
  intro pins s σ H x y v u Q I rx ry h
  obtain ⟨d, ds, hd, he, sd, se, q⟩ := h
  obtain ⟨as, r1⟩ := Dp.reads I d x v hd rx
  obtain ⟨bs, r2⟩ := Dp.reads I (.tuple ds) y u he ry
  exact SeqAt.notIn_tuple_reads r2 r1 (SeqAt.canLay_of_shaped se) (SeqAt.canLay_of_shaped sd) (room_in_shaped sd hu) ⟨.bl _, H, I, rfl, q⟩
/-- a right run: its end among the goals -/
def rRunRight (K : PySem.W.Frag) : List V → Hp → Bool → Prop := fun vs Hs b => ∃ (m x g : V) (M : Mac) (r : List Stp) (gs : List Int), vs = [m, x, g] ∧ MacAt K M m Hs ∧ MOk M ∧ Dp K Hs x (dRun r) ∧ Dp K Hs g (.tuple (gs.map .int)) ∧ RunOk M 0 r ∧ r.length ≤ 1000 ∧ b = decide (endOf 0 r ∈ gs)
section
variable {P : Program} {w : World} {K : PySem.W.Frag} {mg : Str → Option Value} {base : Heap} {σ : L2.St} {H : Hp} {ta tb tc te : TE}
theorem ev_notInT {d : PyData} {ds : List PyData} (ha : EvD K ta σ H d) (hb : EvD K tb σ H (.tuple ds)) (hs : SeqAt.shaped d = true) (hs' : SeqAt.shaped (.list ds) = true) : Ev (tOp (rNotInT K) ta tb) σ H (.bl (!ds.any fun z => PyData.eqv z d)) :=
  ev_op2 ha hb dp_mono dp_mono fun x y H1 _ p p' Q q => ⟨d, ds, p, p', hs, hs', q H1 (Ex.refl _)⟩
abbrev NRR : List Str := ["_law_machine_here", "_law_run", "_law_goals", "_law_state", "_law_step"]
theorem scRR : FnScope NRR ["_law_machine_here", "_law_run", "_law_goals"] (defScope lRunRight) := ⟨rfl, rfl, rfl, by decide +kernel, rfl, by decide +kernel, by decide +kernel⟩
theorem ok_lRun (T : G K mg) : Ok P w K mg base CX0 1 (He.ga K "_law_run_right") ["_law_machine_here", "_law_run", "_law_goals"] (spB K (rRunRight K)) := by
  obtain ⟨fd, F⟩ := T.fun0 32
  refine ok_of F scRR (fun vs H Q E h => ?_) (fun _ _ _ _ _ _ us hl => match us, hl with | [_, _, _], _ => rfl) fun cdv A outer s H vs Q E hr h => ?_
  · obtain ⟨_, _, _, ⟨_, _, _, _, _, _, rfl, _⟩, _⟩ := h
    rfl
  · obtain ⟨Hs, b, eH, ⟨m, x, g, M, r, gs, rfl, hm, O, hx, hg, hrun, hz, rfl⟩, kQ⟩ := h
    refine ⟨_, pss_cons (ps_set (i := 3) scRR.nd rfl (Or.inl rfl) pe_int)
      (pss_cons (ps_for PassesOwn.never rfl (pi_list (pv 1)) (pg_name (i := 4) scRR.nd rfl (Or.inl rfl))
        (pss_cons (ps_if (PW.pt (pw_or (pt_cmpR (op_notInT (room_65 hr)) (pv 4) (pe_fld (pv 0) rfl) rfl)
            (pw_or1 (pt_cmpR op_ne (pe_ix ix_tup (pv 4) pe_int (fun _ _ => rfl)) (pv 3) (nomark _))))) (pss_one (ps_ret pe_bl)) pss_nil)
          (pss_one (ps_set (i := 3) scRR.nd rfl (Or.inl rfl) (pe_ix ix_tup (pv 4) pe_int (fun _ _ => rfl))))))
      (pss_one (ps_ret (pe_cmpR op_in_seq (pv 3) (pv 2) rfl)))), ?_⟩
    refine y_asg (evd_c (K := K) (.int 0)) eH fun v0 Hs2 H2 f2 hv0 => ?_
    have q0 := dp_int hv0
    subst q0
    refine y_for (wk_listA r dStp (j := 4) (evd_var (K := K) (i := 1) (v := x) (σ := (start NRR [m, x, g]).set 3 (some (.int 0))) rfl (dp_ex f2.b hx))) f2.c (fun i σ' Hs' H' => Ex Hs2 Hs' ∧ Ex H H' ∧ ∃ a, σ' = [some m, some x, some g, some (.int (endOf 0 (r.take i))), a])
      (fun Hs3 H3 f3 => ⟨f3.b, f2.a.trans f3.a, none, rfl⟩) (fun i σ' Hs' H' hi f iv σ4 Hs4 H4 f4 hS N hN => ?_) fun σ' Hs' H' f iv => ?_
    · obtain ⟨ex, eh, a, rfl⟩ := iv
      obtain ⟨u, ⟨st, hst, hp⟩, rfl⟩ := hS
      obtain ⟨j, hj, hjm, hjw⟩ := runOk_at hrun hst
      obtain ⟨hsm, hss⟩ := (O.wst j hjm st).mp hjw
      have m4 : MacAt K M m Hs4 := hm.ex (f2.b.trans (ex.trans f4.b))
      rw [hj]
      have sv : EvD K (tVar 4) [some m, some x, some g, some (.int (j : Int)), some u] Hs4 (dStp st) := evd_var (v := u) rfl hp
      have t1 := et_or (et_test (ev_notInT sv (evd_steps T (evp_mac (i := 0) (v := m) rfl m4)) (shaped_S (M.wok j st hjw)) (shaped_Ss M.sok))) fun _ => et_test (ev_neI (ev_int (evd_st sv)) (ev_var (i := 3) (v := .int (j : Int)) rfl))
      rw [any_eqv_S] at t1
      refine y_if t1 f4.c (fun hb H5 e5 => absurd hb (by simp [hsm, hss])) fun hb H5 e5 => ?_
      refine y_next ?_
      dsimp only
      refine y_asg (evd_go sv) (f4.c.trans e5) fun v6 Hs6 H6 f6 hv6 => ?_
      have q6 := dp_int hv6
      subst q6
      refine hN _ Hs6 _ ((f4.trans (Fw.skip f4.c e5)).trans f6).m ⟨ex.trans (f4.b.trans f6.b), eh.trans (f4.a.trans (e5.trans f6.a)), some u, ?_⟩
      rw [List.take_add_one, hst]
      show _ = [some m, some x, some g, some (.int (endOf 0 (r.take i ++ [st]))), some u]
      rw [endOf_snoc]
      rfl
    · obtain ⟨ex, eh, a, rfl⟩ := iv
      dsimp only
      have g4 : EvD K (tVar 2) [some m, some x, some g, some (.int (endOf 0 (r.take r.length))), a] Hs' (.tuple (gs.map .int)) := evd_var (i := 2) (v := g) rfl (dp_ex (f2.b.trans ex) hg)
      have t2 := ev_inTI (K := K) (neg := false) (ev_var (i := 3) (v := .int (endOf 0 (r.take r.length))) (σ := [some m, some x, some g, some (.int (endOf 0 (r.take r.length))), a]) (H := Hs') rfl) g4
      rw [List.take_length] at t2 ⊢
      exact t2 H' f.c _ fun H9 e9 => kQ H9 (eh.trans e9)
end
end K02
set_option Elab.async false
set_option linter.all false
set_option maxRecDepth 100000
set_option maxHeartbeats 2000000
/-! ### the law's _law_allowances -/
namespace K02
open PySem PySem.Spec PyProof.Rows L2 Evl
def al1 (s : List Int) (p : Str × Nat) : List (Str × Option Int) := if decide (drawI s (320 + p.2) 5 < 3) = true then [(p.1, some (drawI s (320 + p.2) 5))] else if decide (drawI s (320 + p.2) 5 = 3) = true then [(p.1, none)] else []
def alOf (s : List Int) (kinds : List Str) : List (Str × Option Int) := kinds.zipIdx.flatMap (al1 s)
theorem al1_key {s : List Int} {p : Str × Nat} {e : Str × Option Int} (h : e ∈ al1 s p) : e.1 = p.1 := by
  unfold al1 at h
  split at h
  · rw [List.mem_singleton.mp h]
  · split at h
    · rw [List.mem_singleton.mp h]
    · cases h
def spLAl (K : PySem.W.Frag) : Sp := fun vs H Q _ => ∃ (Hs : Hp) (x k : V) (s : List Int) (kinds : List Str), vs = [x, .int 320, k] ∧ Ex Hs H ∧ Dp K Hs x (.list (s.map .int)) ∧ s.length ≤ 1000 ∧ Dp K Hs k (.list (kinds.map .str)) ∧ kinds.Nodup ∧ kinds.length ≤ 100 ∧ ∀ v Hs2 H2, Fw Hs H Hs2 H2 → DkAt K (alD (alOf s kinds)) v Hs2 → Q v H2
theorem putE_alD {al : List (Str × Option Int)} {k : Str} {v : Option Int} (h : ∀ e ∈ al, e.1 ≠ k) : putE (alD al) (.inr k) (dO v) = alD (al ++ [(k, v)]) := by
  unfold putE alD
  rw [if_neg, List.map_append]
  · rfl
  · intro z
    obtain ⟨e, he, q⟩ := List.any_eq_true.mp z
    obtain ⟨e0, h0, rfl⟩ := List.mem_map.mp he
    exact h e0 h0 (Sum.inr.inj (of_decide_eq_true q))
section
variable {P : Program} {w : World} {K : PySem.W.Frag} {mg : Str → Option Value} {base : Heap} {σ : L2.St} {H : Hp} {ta tb tc te : TE}
abbrev NAL : List Str := ["_law_script", "_law_at", "_law_kinds", "_law_found", "_law_spot", "_law_kind", "_law_one"]
theorem scAL : FnScope NAL ["_law_script", "_law_at", "_law_kinds"] (defScope lAllow) := ⟨rfl, rfl, rfl, by decide +kernel, rfl, by decide +kernel, by decide +kernel⟩
theorem ok_lAllow (T : G K mg) : Ok P w K mg base CX0 2 (He.ga K "_law_allowances") ["_law_script", "_law_at", "_law_kinds"] (spLAl K) := by
  obtain ⟨fd, F⟩ := T.fun0 36
  obtain ⟨fdD, GD, bD, kD⟩ := ok_draw (P := P) (w := w) (base := base) T
  refine ok_of F scAL (fun vs H Q E h => ?_) (fun _ _ _ _ _ _ us hl => match us, hl with | [_, _, _], _ => rfl) fun cdv A outer s H vs Q E hr h => ?_
  · obtain ⟨_, _, _, _, _, rfl, _⟩ := h
    rfl
  · obtain ⟨Hs, x, k, sc, kinds, rfl, eH, hx, hl, hk, hnd, hkl, kQ⟩ := h
    refine ⟨_, pss_cons (ps_set (i := 3) scAL.nd rfl (Or.inl rfl) pe_dnewK)
      (pss_cons (ps_for PassesOwn.never rfl (pi_enum rfl (T.fr "enumerate") (pa_cons (pv 2) pa_nil)) (pg_tup rfl (pgs_cons (pg_name (i := 4) scAL.nd rfl (Or.inl rfl)) (pgs_cons (pg_name (i := 5) scAL.nd rfl (Or.inl rfl)) pgs_nil)))
        (pss_cons (ps_set (i := 6) scAL.nd rfl (Or.inl rfl) (pe_call GD hr rfl (T.gl "_law_draw") kD bD .nil pass0 (pa_cons (pv 0) (pa_cons (pe_op op_add (pv 1) (pv 4)) (pa_cons pe_int pa_nil)))))
        (pss_cons (ps_if (pt_cmpR op_lt (pv 6) pe_int (nomark _)) (pss_one (ps_dput (room_1 hr) (pv 3) (pv 5) (pv 6) rfl)) pss_nil)
        (pss_one (ps_if (pt_cmpR op_eq (pv 6) pe_int (nomark _)) (pss_one (ps_dput (room_1 hr) (pv 3) (pv 5) pe_non rfl)) pss_nil)))))
      (pss_one (ps_ret (pv 3)))), ?_⟩
    intro D hD
    have hDs : Hs D = none := fresh_back eH hD
    show tSeq _ _ _ _ _
    refine y_for (wk_enumA kinds .str (j := 4) (k := 5) (ead_cons (evd_var (K := K) (i := 2) (v := k) (σ := (start NAL [x, .int 320, k]).set 3 (some (.ref D))) rfl hk) ead_nil)) (eH.trans (Ex.new hD))
      (fun i σ' Hs' H' => Ex Hs Hs' ∧ Ex H H' ∧ Hs' D = none ∧ (∃ kvs, H' D = some (.dK kvs) ∧ EntK K Hs' kvs (alD ((kinds.zipIdx.take i).flatMap (al1 sc)))) ∧ (∀ y o, H y = some o → Hs y = none → Hs' y = none) ∧ ∃ a b c, σ' = [some x, some (.int 320), some k, some (.ref D), a, b, c])
      (fun Hs3 H3 f3 => ⟨f3.b, (Ex.new hD).trans f3.a, f3.d D _ upd_same hDs, ⟨[], f3.a _ _ upd_same, .nil⟩, fun y o hy n => f3.d y o (Ex.new hD y o hy) n, none, none, none, rfl⟩) (fun i σ' Hs' H' hi f iv σ4 Hs4 H4 f4 hS N hN => ?_) fun σ' Hs' H' f iv => ?_
    · obtain ⟨ex, eh, hn, ⟨kvs, hDk, hent⟩, hfr, a, b, c, rfl⟩ := iv
      obtain ⟨u, u', ⟨rfl, kd, hkd, hp⟩, rfl⟩ := hS
      have q := dp_str hp
      subst q
      have dr := ev_draw (K := K) (σ := [some x, some (.int 320), some k, some (.ref D), some (.int (i : Int)), some (.str kd), c]) (H := Hs4) (a := 320 + i) (many := 5) (evd_var (i := 0) (v := x) rfl (dp_ex (ex.trans f4.b) hx)) (ev_add (ev_var (i := 1) (v := .int 320) rfl) (ev_var (i := 4) (v := .int (i : Int)) rfl)) (ev_c (v := .int 5)) hl (by omega) (by decide)
      refine y_asg (P := fun v _ => v = .int (drawI sc (320 + i) 5)) (evp_of dr fun _ _ => rfl) f4.c fun v5 Hs5 H5 f5 hv => ?_
      subst hv
      dsimp only
      have hz : kinds.zipIdx[i]? = some (kd, i) := by rw [List.getElem?_zipIdx, hkd, Nat.zero_add]; rfl
      have f45 := f4.trans f5
      have hD5 : H5 D = some (.dK kvs) := f45.a _ _ hDk
      have n5 : Hs5 D = none := f45.d _ _ hDk hn
      have ent5 := entK_ex f45.b hent
      have hfr5 : ∀ y o, H y = some o → Hs y = none → Hs5 y = none := fun y o hy n => f45.d y o (eh y o hy) (hfr y o hy n)
      have hD0 : ∀ y o, H y = some o → y ≠ D := fun y o hy => ne_of_none hy hD
      have nk : ∀ e ∈ (kinds.zipIdx.take i).flatMap (al1 sc), e.1 ≠ kd := fun e he z => by
        obtain ⟨p, hp1, hp2⟩ := List.mem_flatMap.mp he
        have e1 := al1_key hp2
        obtain ⟨j, hj⟩ := List.mem_iff_getElem?.mp hp1
        have hji : j < i := by
          have := (List.getElem?_eq_some_iff.mp hj).1
          rw [List.length_take] at this
          omega
        rw [List.getElem?_take_of_lt hji, List.getElem?_zipIdx] at hj
        cases hkj : kinds[j]? with
        | none => rw [hkj] at hj; cases hj
        | some kj =>
          rw [hkj] at hj
          have hj : some (kj, 0 + j) = some p := hj
          have e2 : kj = p.1 := by rw [← Option.some.inj hj]
          have e3 : kinds[j]? = kinds[i]? := by rw [hkj, hkd, e2, ← e1, z]
          have hjl : j < kinds.length := (List.getElem?_eq_some_iff.mp hkj).1
          have := (List.getElem?_inj hjl hnd).mp e3
          omega
      have step : (kinds.zipIdx.take (i + 1)).flatMap (al1 sc) = (kinds.zipIdx.take i).flatMap (al1 sc) ++ al1 sc (kd, i) := by
        rw [List.take_add_one, hz, List.flatMap_append]
        show _ ++ List.flatMap (al1 sc) [(kd, i)] = _
        rw [List.flatMap_cons, List.flatMap_nil, List.append_nil]
      have kl : kvs.length < 100000 := by
        have h1 : kvs.length = (alD ((kinds.zipIdx.take i).flatMap (al1 sc))).length := Paired.length hent
        have h2 : ∀ l : List (Str × Nat), (l.flatMap (al1 sc)).length ≤ l.length := fun l => by
          induction l with
          | nil => exact Nat.le_refl _
          | cons p l ih =>
            rw [List.flatMap_cons, List.length_append, List.length_cons]
            have : (al1 sc p).length ≤ 1 := by
              unfold al1
              split
              · exact Nat.le_refl _
              · split
                · exact Nat.le_refl _
                · exact Nat.zero_le _
            omega
        have h3 := h2 (kinds.zipIdx.take i)
        rw [List.length_take, List.length_zipIdx] at h3
        unfold alD at h1
        rw [List.length_map] at h1
        omega
      have v6 : ∀ {Hz : Hp}, Ev (tVar 6) [some x, some (.int 320), some k, some (.ref D), some (.int (i : Int)), some (.str kd), some (.int (drawI sc (320 + i) 5))] Hz (.int (drawI sc (320 + i) 5)) := ev_var rfl
      -- one entry more
      have put : ∀ (v : V) (o : Option Int) (Hz : Hp), Ex H5 Hz → Dp K Hs5 v (dO o) → al1 sc (kd, i) = [(kd, o)] → N [some x, some (.int 320), some k, some (.ref D), some (.int (i : Int)), some (.str kd), some (.int (drawI sc (320 + i) 5))] (upd Hz D (.dK (putK kvs (.inr kd) v))) := fun v o Hz ez hv ho => by
        refine hN _ Hs5 _ ((f45.trans (Fw.skip f45.c ez)).m.trans (Fm.mut (f45.c.trans ez) n5)) ⟨ex.trans f45.b, Ex.mut (eh.trans (f45.a.trans ez)) hD, n5, ⟨_, upd_same, ?_⟩, hfr5, _, _, _, rfl⟩
        rw [step, ho, ← putE_alD nk]
        exact entK_put ent5 _ hv
      refine y_if (et_test (ev_op (H := H5) v6 (ev_c (v := .int 3)) (rv_I0 (g := fun i j => .bl (decide (i < j)))))) (Ex.refl _) (fun hb H6 e6 => ?_) fun hb H6 e6 => ?_
      · refine ⟨.int (drawI sc (320 + i) 5), rfl, .ref D, rfl, .str kd, rfl, D, _, rfl, DPut.k (k := .inr kd) (e6 _ _ hD5) (sz_lt kl), ?_⟩
        dsimp only
        have hne : decide (drawI sc (320 + i) 5 = 3) = false := decide_eq_false fun z => by
          have := of_decide_eq_true hb
          omega
        have t3 := et_test (ev_eqI (H := upd H6 D (.dK (putK kvs (.inr kd) (.int (drawI sc (320 + i) 5))))) (v6) (ev_c (v := .int 3)))
        rw [hne] at t3
        refine y_if t3 (Ex.refl _) (fun hb2 => by cases hb2) fun _ H7 e7 => ?_
        refine y_next ?_
        dsimp only
        have mt := Fm.mut (p := D) (o := HO.dK (putK kvs (.inr kd) (.int (drawI sc (320 + i) 5)))) (f45.c.trans e6) n5
        refine hN _ Hs5 _ (((f45.trans (Fw.skip f45.c e6)).m.trans mt).trans (Fw.skip mt.c e7).m) ⟨ex.trans f45.b, (Ex.mut (eh.trans (f45.a.trans e6)) hD).trans e7, n5, ⟨_, e7 _ _ upd_same, ?_⟩, hfr5, _, _, _, rfl⟩
        rw [step, show al1 sc (kd, i) = [(kd, some (drawI sc (320 + i) 5))] from by unfold al1; rw [if_pos hb], ← putE_alD nk]
        exact entK_put ent5 _ (show Dp K Hs5 _ (dO (some (drawI sc (320 + i) 5))) from .int _)
      · refine y_next ?_
        dsimp only
        refine y_if (et_test (ev_eqI (H := H6) (v6) (ev_c (v := .int 3)))) (Ex.refl _) (fun hb2 H7 e7 => ?_) fun hb2 H7 e7 => ?_
        · refine ⟨.ref D, rfl, .str kd, rfl, D, _, rfl, DPut.k (k := .inr kd) (e7 _ _ (e6 _ _ hD5)) (sz_lt kl), ?_⟩
          exact put .non none H7 (e6.trans e7) .non (by unfold al1; rw [if_neg (by rw [hb]; decide), if_pos hb2])
        · refine y_next ?_
          refine hN _ Hs5 _ (f45.trans (Fw.skip f45.c (e6.trans e7))).m ⟨ex.trans f45.b, eh.trans (f45.a.trans (e6.trans e7)), n5, ⟨kvs, e7 _ _ (e6 _ _ hD5), ?_⟩, hfr5, _, _, _, rfl⟩
          rw [step, show al1 sc (kd, i) = [] from by unfold al1; rw [if_neg (by rw [hb]; decide), if_neg (by rw [hb2]; decide)], List.append_nil]
          exact ent5
    · obtain ⟨ex, eh, hn, ⟨kvs, hDk, hent⟩, hfr, a, b, c, rfl⟩ := iv
      dsimp only
      have eb : Ex (upd Hs' D (.dK kvs)) H' := fun y o hy => by
        by_cases q : y = D
        · subst q; rw [upd_same] at hy; rw [← hy]; exact hDk
        · rw [upd_ne q] at hy; exact f.c y o hy
      refine ⟨.ref D, rfl, kQ _ (upd Hs' D (.dK kvs)) H' ⟨eh, ex.trans (Ex.new hn), eb, fun y o hy n => by rw [upd_ne (ne_of_none hy hD)]; exact hfr y o hy n⟩ ⟨D, kvs, rfl, upd_same, ?_⟩⟩
      have e : (kinds.zipIdx.take kinds.length).flatMap (al1 sc) = alOf sc kinds := by
        unfold alOf
        rw [List.take_of_length_le (by rw [List.length_zipIdx]; exact Nat.le_refl _)]
      rw [e] at hent
      exact entK_ex (Ex.new hn) hent
end
end K02
set_option Elab.async false
set_option linter.all false
set_option maxRecDepth 100000
set_option maxHeartbeats 2000000
/-! ### any(vector), a tuple of ints -/
namespace K02
open PySem PySem.Spec PyProof.Rows L2 Evl
theorem truth_ints {prog : Program} {w : World} {A : Around} {ns : List Int} {its : List Value} (e : Vals (ns.map V.int) its) :
    TruthOf prog w A (fun i v => its.toArray[i]? = some v) (fun i => decide (ns.getD i 0 ≠ 0)) := fun i v s Q E hv hq => by
  have hv' : its[i]? = some v := by simpa using hv
  have hl := e.length
  rw [List.length_map] at hl
  have hi : i < ns.length := by have := (List.getElem?_eq_some_iff.mp hv').1; omega
  obtain ⟨u, hu, ru⟩ := e.get (i := i) (x := V.int ns[i]) (by rw [List.getElem?_map, List.getElem?_eq_getElem hi]; rfl)
  rw [hv'] at hu
  cases hu
  obtain ⟨t, rfl⟩ := (show ∃ t, v = Value.int ns[i] t from ru)
  have hg : ns.getD i 0 = ns[i] := by rw [List.getD_eq_getElem?_getD, List.getElem?_eq_getElem hi]; rfl
  have hq : Q (decide (ns.getD i 0 ≠ 0)) s := hq
  rw [hg] at hq
  refine PySem.P.truthy_int ?_
  have e3 : (ns[i] != 0) = decide (ns[i] ≠ 0) := by
    by_cases z : ns[i] = 0
    · rw [z]; rfl
    · rw [bne_iff_ne.mpr z, decide_eq_true z]
  rw [e3]
  exact hq
theorem any_rangeI (ns : List Int) : (List.range ns.length).any (fun i => decide (ns.getD i 0 ≠ 0)) = ns.any fun n => decide (n ≠ 0) := by
  induction ns with
  | nil => rfl
  | cons b bs ih =>
    rw [List.length_cons, List.range_succ_eq_map, List.any_cons, List.any_map, List.any_cons, ← ih]
    rfl
/-- any(t), t a tuple of ints -/
def rAnyI (K : PySem.W.Frag) : List V → Hp → VK → Prop := fun vs H Q => ∃ (a : Addr) (ns : List Int), vs = [V.ref a] ∧ SqT K H a (ns.map V.int) ∧ Q (.bl (ns.any fun n => decide (n ≠ 0))) H
theorem cr_anyI {X : Cx} (hc : X.calm = true) : CallR X (.builtin "any") (rAnyI X.K) := by
  intro pins s σ H vs us Q I r h
  obtain ⟨a, ns, rfl, hs, q⟩ := h
  obtain ⟨its, rv, hl, _⟩ := I.tuple hs
  rw [Vals.ref1 r]
  have ht : s.heap.IsTuple a its.toArray := by
    obtain ⟨o, ho, h1, n, h2⟩ := hl
    exact ⟨o, ho, h1, n, h2⟩
  have hlt : a < s.heap.objs.size := by obtain ⟨_, e, _⟩ := ht; exact Heap.lt_size e
  have hln := rv.length
  rw [List.length_map] at hln
  refine call_any_walk (wpAny_pyIter_tuple ht ?_)
  refine ⟨_, _, _, _, _, _, _, rfl, Walks.tuple (A := X.A.in1) (I.ok.hd hc) _ a (Nat.ne_of_lt hlt) its.toArray, ⟨⟨_, Heap.get?_push_size _ rfl, rfl, rfl⟩, ?_⟩, truth_ints rv, fun h' tk hk => ?_⟩
  · obtain ⟨o, ho, r1⟩ := ht
    exact ⟨o, Heap.get?_push_of_some _ ho, r1⟩
  · refine ⟨.bl _, H, I.kept fun b o eo => hk b o (fun hmem => ?_) (Heap.get?_push_of_some _ eo), ?_, q⟩
    · rcases List.mem_cons.mp hmem with e1 | hmem
      · exact absurd (e1 ▸ Heap.lt_size eo) (Nat.lt_irrefl _)
      · cases hmem
    · show Value.bool _ = Value.bool _
      rw [← any_rangeI, hln, List.size_toArray]
theorem ev_anyI {K : PySem.W.Frag} {σ : L2.St} {H : Hp} {ta : TE} {v : Vec} (h : EvD K ta σ H (dV v)) : Ev (tCB (rAnyI K) (tCons ta tNil)) σ H (.bl (v.any fun n => decide (n ≠ 0))) := fun H1 x Q q =>
  h H H1 (Ex.refl _) x _ fun u Hs2 H2 f p => by
    obtain ⟨a, xs, rfl, hs, ht⟩ := dp_tup p
    have e := dps_ints_eq ht
    subst e
    exact ⟨a, v, rfl, ex_t f.c hs, q _ f.a⟩
end K02
set_option Elab.async false
set_option linter.all false
set_option maxRecDepth 100000
set_option maxHeartbeats 2000000
/-! ### for state, kind, seen, goal in steps (a tuple) -/
namespace K02
open PySem PySem.Spec PyProof.Rows L2 Evl
def SS4 (j k l m : Nat) (steps : List Stp) : Nat → L2.St → L2.St → Hp → Prop := fun i σb σ2 _ => ∃ st, steps[i]? = some st ∧ σ2 = (((σb.set j (some (.int st.st))).set k (some (.str st.ki))).set l (some (.str st.se))).set m (some (.int st.go))
theorem wk_tupS {K : PySem.W.Frag} {σ : L2.St} {H : Hp} {tl : TE} {steps : List Stp} {j k l m : Nat} (h : EvD K tl σ H (.tuple (steps.map dStp))) : Wk (iTup K tl) (g4 K j k l m) σ H steps.length (SS4 j k l m steps) := fun Hs H0 a0 b0 R q =>
  h Hs H0 a0 b0 _ fun v Hs1 H1 f p => by
    obtain ⟨a, xs, rfl, hs, ht⟩ := dp_tup p
    have hlen : xs.length = steps.length := by rw [dps_len ht, List.length_map]
    refine ⟨a, rfl, ⟨xs, ex_t f.c hs⟩, q _ Hs1 H1 f fun Hs' H' e1 e2 => ⟨⟨xs, ex_t (e1.trans e2) hs, Nat.le_of_eq hlen⟩, fun i hi => ?_⟩⟩
    have hi' : i < xs.length := by rw [hlen]; exact hi
    refine ⟨⟨xs, xs[i], ex_t (e1.trans e2) hs, by simp [hi']⟩, fun x H'' y => ?_⟩
    obtain ⟨e3, y⟩ := y
    subst e3
    intro σb Q hQ
    obtain ⟨d, hd, hp⟩ := dps_get' ht (y xs (ex_t (e1.trans e2) hs))
    rw [List.getElem?_map] at hd
    cases hst : steps[i]? with
    | none => rw [hst] at hd; cases hd
    | some st =>
      rw [hst] at hd
      cases hd
      obtain ⟨T, zs, rfl, hz, hzs⟩ := dp_tup hp
      cases hzs with
      | cons p1 hzs =>
        obtain ⟨y, z, u, rfl, p2, p3, p4⟩ := dps3 hzs
        have q1 := dp_int p1
        have q2 := dp_str p2
        have q3 := dp_str p3
        have q4 := dp_int p4
        subst q1 q2 q3 q4
        exact ⟨T, _, rfl, ex_t (e1.trans e2) hz, rfl, _, _, rfl, _, _, rfl, _, _, rfl, _, [], rfl, rfl, hQ _ Hs' _ (Fw.refl e2) ⟨st, hst, rfl⟩⟩
end K02
set_option Elab.async false
set_option linter.all false
set_option maxRecDepth 100000
set_option maxHeartbeats 2000000
/-! ### tuple([number + (1 if one == kind else 0) for one, number in zip(kinds, vector)]) -/
namespace K02
open PySem PySem.Spec PyProof.Rows L2 Evl
abbrev tBump (tj tk tkd : TE) : TE := tOp (rI0 fun i j => .int (i + j)) tk (tIf (tTest (tOp rEq tj tkd)) (tC (.int 1)) (tC (.int 0)))
theorem evd_more {K : PySem.W.Frag} {σ : L2.St} {H : Hp} {tks tv tkd : TE} {kinds : List Str} {v : Vec} {kd : Str} {j k : Nat} (hk : EvD K tks σ H (.list (kinds.map .str))) (hv : EvD K tv σ H (dV v)) (hkl : kinds.length ≤ 1000)
    (hw : ∀ a b, wipe (((wipe σ [j, k]).set j (some a)).set k (some b)) [j, k] = wipe σ [j, k]) (hj : ∀ a b, (((wipe σ [j, k]).set j (some a)).set k (some b))[j]? = some (some a)) (hkk : ∀ a b, (((wipe σ [j, k]).set j (some a)).set k (some b))[k]? = some (some b))
    (hkd : ∀ a b H2, Ex H H2 → EvD K tkd (((wipe σ [j, k]).set j (some a)).set k (some b)) H2 (.str kd)) :
    EvD K (tCB (fun xs H Q => ∃ p ys, xs = [.ref p] ∧ ((SqL K H p ys ∧ ∀ l, H l = none → Q (.ref l) (upd H l (.tup ys))) ∨ (SqT K H p ys ∧ Q (.ref p) H))) (tCons (tLc (iZipM K (tCons tks (tCons tv tNil))) (g2 K j k) tYes (tBump (tVar j) (tVar k) tkd) [j, k]) tNil)) σ H (dV (bump kinds v kd)) := by
  have key := evd_lcM (K := K) (vs := [j, k]) (te := tBump (tVar j) (tVar k) tkd) (kinds.zip v) (fun p => PyData.int (p.2 + if p.1 = kd then 1 else 0)) (wk_zipA (p := false) (q := true) kinds v .str .int (j := j) (k := k) (ead_cons hk (ead_cons hv ead_nil))) (by rw [List.length_zip]; omega) fun i a σ2 H' hi e hS => by
    obtain ⟨z, z', ⟨a1, b1, e1, p1, p2⟩, rfl⟩ := hS
    rw [hi] at e1
    cases e1
    have q1 := dp_str p1
    have q2 := dp_int p2
    subst q1 q2
    refine ⟨hw _ _, evd_int (ev_add (ev_var (hkk _ _)) (ev_is (evd_ifI (i := 1) (j := 0) (et_test (ev_eqS (evd_var (hj _ _) (.str a1)) (hkd _ _ _ e))) (fun _ => ev_c) fun _ => ev_c) ?_))⟩
    by_cases q : a1 = kd
    · simp [q]
    · simp [q]
  have r := evd_tupleOf key
  have e2 : (kinds.zip v).map (fun p => PyData.int (p.2 + if p.1 = kd then 1 else 0)) = (bump kinds v kd).map .int := by
    unfold bump
    rw [List.map_map]
    rfl
  rw [e2] at r
  exact r
end K02
set_option Elab.async false
set_option linter.all false
set_option maxRecDepth 100000
set_option maxHeartbeats 2000000
/-! ### the law's _law_closed, on a table that is closed, without limits -/
namespace K02
open PySem PySem.Spec PyProof.Rows L2 Evl
structure ClosedOk (M : Mac) (cs : List (Int × List Vec)) : Prop where
  start : ∃ v ∈ heldC cs 0, (v.any fun n => decide (n ≠ 0)) = false
  step : ∀ st ∈ M.steps, ∀ v ∈ heldC cs st.st, ∃ o ∈ heldC cs st.go, below o (bump M.kinds v st.ki) = true
def rClosed (K : PySem.W.Frag) : List V → Hp → Bool → Prop := fun vs Hs b => ∃ (m c l : V) (M : Mac) (cs : List (Int × List Vec)), vs = [m, c, l] ∧ MacAt K M m Hs ∧ MOk M ∧ DictX K (costsD cs) c Hs ∧ Dp K Hs l (.list ((List.replicate M.kinds.length none).map dO)) ∧ TabOk M cs ∧ ClosedOk M cs ∧ b = true
section
variable {P : Program} {w : World} {K : PySem.W.Frag} {mg : Str → Option Value} {base : Heap} {σ : L2.St} {H : Hp} {ta tb tc te : TE}
abbrev NCL : List Str := ["_law_machine_here", "_law_costs", "_law_limits_here", "_law_state", "_law_kind", "_law_seen", "_law_goal", "_law_vector", "_law_more", "_law_is_in", "_law_one", "_law_number", "_law_limit", "_law_other"]
theorem scCL : FnScope NCL ["_law_machine_here", "_law_costs", "_law_limits_here"] (defScope lClosed) := ⟨rfl, rfl, rfl, by decide +kernel, rfl, by decide +kernel, by decide +kernel⟩
theorem ok_lClosed (T : G K mg) : Ok P w K mg base CX0 2 (He.ga K "_law_closed") ["_law_machine_here", "_law_costs", "_law_limits_here"] (spB K (rClosed K)) := by
  obtain ⟨fd, F⟩ := T.fun0 35
  obtain ⟨fdB, GB, bB, kB⟩ := ok_lBelow (P := P) (w := w) (base := base) T
  refine ok_of F scCL (fun vs H Q E h => ?_) (fun _ _ _ _ _ _ us hl => match us, hl with | [_, _, _], _ => rfl) fun cdv A outer s H vs Q E hr h => ?_
  · obtain ⟨_, _, _, ⟨_, _, _, _, _, rfl, _⟩, _⟩ := h
    rfl
  · obtain ⟨Hs, b, eH, ⟨m, c, l, M, cs, rfl, hm, O, hc, hl, hT, hC, rfl⟩, kQ⟩ := h
    refine ⟨_, pss_cons (ps_if (pt_not (pt_val (pe_callB (cr_any rfl) rfl (T.fr "any") (by decide +kernel) (pa_cons (pe_lc (own := [("_law_vector", 7)]) (g := gName 7) (tt := tYes) (te := tNotV (tCB (rAnyI K) (tCons (tVar 7) tNil))) rfl scCL.nd (pi_list (pe_dget2 (room_1 hr) (pv 1) pe_int (pe_lst pa_nil) ⟨rfl, rfl, rfl, rfl⟩)) (blkOk_by (N := NCL) (sc := defScope lClosed) (by decide +kernel))
          (fun _ _ _ _ _ => pg_name (i := 7) scCL.nd rfl (Or.inl rfl)) (fun _ _ _ _ _ => pts_nil) (fun _ _ _ _ _ => pe_not (pe_callB (cr_anyI rfl) rfl (T.fr "any") (by decide +kernel) (pa_cons (pv 7) pa_nil)))) pa_nil)))) (pss_one (ps_ret pe_bl)) pss_nil)
      (pss_cons (ps_for PassesOwn.never rfl (pi_tup (pe_fld (pv 0) rfl)) (pg_tup rfl (pgs_cons (pg_name (i := 3) scCL.nd rfl (Or.inl rfl)) (pgs_cons (pg_name (i := 4) scCL.nd rfl (Or.inr rfl)) (pgs_cons (pg_name (i := 5) scCL.nd rfl (Or.inl rfl)) (pgs_cons (pg_name (i := 6) scCL.nd rfl (Or.inl rfl)) pgs_nil)))))
        (pss_one (ps_for PassesOwn.never rfl (pi_list (pe_dget2 (room_1 hr) (pv 1) (pv 3) (pe_lst pa_nil) ⟨rfl, rfl, rfl, rfl⟩)) (pg_name (i := 7) scCL.nd rfl (Or.inl rfl))
          (pss_cons (ps_set (i := 8) scCL.nd rfl (Or.inr rfl) (pe_callTy call_tuple_of rfl (T.fr "tuple") (by decide +kernel) (pa_cons (pe_lc (own := [("_law_one", 10), ("_law_number", 11)]) (g := g2 K 10 11) (tt := tYes) (te := tBump (tVar 10) (tVar 11) (tVar 4)) rfl scCL.nd (pi_zipM rfl (T.fr "zip") (pa_cons (pe_fld (pv 0) rfl) (pa_cons (pv 7) pa_nil))) (blkOk_by (N := NCL) (sc := defScope lClosed) (by decide +kernel))
              (fun _ _ _ _ _ => pg_tup rfl (pgs_cons (pg_name (i := 10) scCL.nd rfl (Or.inl rfl)) (pgs_cons (pg_name (i := 11) scCL.nd rfl (Or.inl rfl)) pgs_nil))) (fun _ _ _ _ _ => pts_nil) (fun _ _ _ _ _ => pe_op op_add (pv 11) (pe_ifExp (pt_cmpR op_eq (pv 10) (pv 4) (nomark _)) pe_int pe_int))) pa_nil)))
          (pss_cons (ps_set (i := 9) scCL.nd rfl (Or.inl rfl) (pe_callB (cr_all rfl) rfl (T.fr "all") (by decide +kernel) (pa_cons (pe_lc (own := [("_law_number", 11), ("_law_limit", 12)]) (g := g2 K 11 12) (tt := tYes) (te := tOrV (tIsN (tVar 12)) (tOp (rI0 fun i j => .bl (decide (i ≤ j))) (tVar 11) (tVar 12))) rfl scCL.nd (pi_zipM rfl (T.fr "zip") (pa_cons (pv 8) (pa_cons (pv 2) pa_nil))) (blkOk_by (N := NCL) (sc := defScope lClosed) (by decide +kernel))
              (fun _ _ _ _ _ => pg_tup rfl (pgs_cons (pg_name (i := 11) scCL.nd rfl (Or.inl rfl)) (pgs_cons (pg_name (i := 12) scCL.nd rfl (Or.inl rfl)) pgs_nil))) (fun _ _ _ _ _ => pts_nil) (fun _ _ _ _ _ => pe_or (pe_cmp (pc_isN (pv 12)) rfl) (pe_one (pe_cmpR op_le (pv 11) (pv 12) (nomark _))))) pa_nil)))
          (pss_one (ps_if (PW.pt (pw_and (pt_val (pv 9)) (pw_and1 (pt_not (pt_val (pe_callB (cr_any rfl) rfl (T.fr "any") (by decide +kernel) (pa_cons (pe_lc (own := [("_law_other", 13)]) (g := gName 13) (tt := tYes) (te := tCall (spB K (rLBelow K)) [] E0 (tCons (tVar 13) (tCons (tVar 8) tNil))) rfl scCL.nd (pi_list (pe_dget2 (room_1 hr) (pv 1) (pv 6) (pe_lst pa_nil) ⟨rfl, rfl, rfl, rfl⟩)) (blkOk_by (N := NCL) (sc := defScope lClosed) (by decide +kernel))
              (fun _ _ _ _ _ => pg_name (i := 13) scCL.nd rfl (Or.inl rfl)) (fun _ _ _ _ _ => pts_nil) (fun _ _ _ _ _ => pe_call GB hr rfl (T.gl "_law_below") kB bB .nil pass0 (pa_cons (pv 13) (pa_cons (pv 8) pa_nil)))) pa_nil))))))) (pss_one (ps_ret pe_bl)) pss_nil)))))))
      (pss_one (ps_ret pe_bl))), ?_⟩
    have few := O.few
    obtain ⟨d, kvs, rfl, hd, hde⟩ := id hc
    have cv : ∀ {σ : L2.St} {Hz : Hp}, Ex Hs Hz → σ[1]? = some (some (.ref d)) → EvP (tVar 1) σ Hz (DictAt K (costsD cs)) := fun e h => evp_of (ev_var (v := .ref d) h) fun _ e2 => ⟨d, kvs, rfl, .inl (e2 _ _ (e _ _ hd)), entD_ex (e.trans e2) hde⟩
    have h0 := hT.held 0
    have key0 := evd_lcM (K := K) (σ := start NCL [m, .ref d, l]) (H := Hs) (vs := [7]) (te := tNotV (tCB (rAnyI K) (tCons (tVar 7) tNil))) (heldC cs 0) (fun v => PyData.bool (!(v.any fun n => decide (n ≠ 0)))) (wk_listA (heldC cs 0) dV (j := 7) (evd_held (cv (Ex.refl _) rfl) (ev_c (v := .int 0)))) (by omega) fun i v σ2 H' hi ex hS => by
      obtain ⟨u, ⟨a1, e1, p1⟩, rfl⟩ := hS
      rw [hi] at e1
      cases e1
      exact ⟨rfl, evd_bl (ev_notV (ev_anyI (evd_var (i := 7) (v := u) rfl p1)))⟩
    have em : (heldC cs 0).map (fun v => PyData.bool (!(v.any fun n => decide (n ≠ 0)))) = ((heldC cs 0).map fun v => !(v.any fun n => decide (n ≠ 0))).map PyData.bool := by rw [List.map_map]; rfl
    rw [em] at key0
    have t0 := et_not (et_B (ev_any key0))
    have b0 : (((heldC cs 0).map fun v => !(v.any fun n => decide (n ≠ 0))).any id) = true := by
      obtain ⟨v, hv, e⟩ := hC.start
      rw [List.any_map, List.any_eq_true]
      exact ⟨v, hv, by show (!(v.any fun n => decide (n ≠ 0))) = true; rw [e]; rfl⟩
    rw [b0] at t0
    refine y_if t0 eH (fun hb => by cases hb) fun _ H1 e1 => ?_
    refine y_next ?_
    dsimp only
    refine y_for (wk_tupS (j := 3) (k := 4) (l := 5) (m := 6) (evd_steps T (evp_mac (i := 0) (σ := start NCL [m, .ref d, l]) (v := m) rfl hm))) (eH.trans e1)
      (fun i σ' Hs' H' => Ex Hs Hs' ∧ Ex H H' ∧ ∃ a b c e f g h i j k p, σ' = [some m, some (.ref d), some l, a, b, c, e, f, g, h, i, j, k, p])
      (fun Hs3 H3 f3 => ⟨f3.b, e1.trans f3.a, none, none, none, none, none, none, none, none, none, none, none, rfl⟩) (fun i σ' Hs' H' hi f iv σ4 Hs4 H4 f4 hS N hN => ?_) fun σ' Hs' H' f iv => ?_
    · obtain ⟨ex, eh, a3, a4, a5, a6, a7, a8, a9, a10, a11, a12, a13, rfl⟩ := iv
      obtain ⟨st, hst, rfl⟩ := hS
      have hstm := List.mem_of_getElem? hst
      have hh := hT.held st.st
      have e4 := ex.trans f4.b
      refine y_for (wk_listA (heldC cs st.st) dV (j := 7) (evd_held (cv (σ := [some m, some (.ref d), some l, some (.int st.st), some (.str st.ki), some (.str st.se), some (.int st.go), a7, a8, a9, a10, a11, a12, a13]) e4 rfl) (ev_var (i := 3) (v := .int st.st) rfl))) f4.c
        (fun i σ' Hs' H' => Ex Hs4 Hs' ∧ Ex H4 H' ∧ ∃ f g h i j k p, σ' = [some m, some (.ref d), some l, some (.int st.st), some (.str st.ki), some (.str st.se), some (.int st.go), f, g, h, i, j, k, p])
        (fun Hs5 H5 f5 => ⟨f5.b, f5.a, _, _, _, _, _, _, _, rfl⟩) (fun q σ' Hs' H' hq f' iv σ5 Hs5 H5 f5 hS N' hN' => ?_) fun σ' Hs' H' f' iv => ?_
      · obtain ⟨exi, ehi, c7, c8, c9, c10, c11, c12, c13, rfl⟩ := iv
        obtain ⟨u, ⟨v, hv, hp⟩, rfl⟩ := hS
        have hvm := List.mem_of_getElem? hv
        have e5 := e4.trans (exi.trans f5.b)
        refine y_asg (evd_more (K := K) (j := 10) (k := 11) (kinds := M.kinds) (v := v) (kd := st.ki) (evd_kinds T (evp_mac (i := 0) (σ := [some m, some (.ref d), some l, some (.int st.st), some (.str st.ki), some (.str st.se), some (.int st.go), some u, c8, c9, c10, c11, c12, c13]) (v := m) rfl (hm.ex e5))) (evd_var (i := 7) (v := u) rfl hp) (by omega) (fun _ _ => rfl) (fun _ _ => rfl) (fun _ _ => rfl) fun _ _ _ _ => evd_var (i := 4) (v := .str st.ki) rfl (.str _)) f5.c fun x8 Hs6 H6 f6 h8 => ?_
        dsimp only
        have e6 := e5.trans f6.b
        have hbl : (bump M.kinds v st.ki).length = M.kinds.length := bump_len st.ki (hh.1 v hvm)
        have key1 := evd_lcM (K := K) (σ := [some m, some (.ref d), some l, some (.int st.st), some (.str st.ki), some (.str st.se), some (.int st.go), some u, some x8, c9, c10, c11, c12, c13]) (H := Hs6) (vs := [11, 12]) (te := tOrV (tIsN (tVar 12)) (tOp (rI0 fun i j => .bl (decide (i ≤ j))) (tVar 11) (tVar 12))) ((bump M.kinds v st.ki).zip (List.replicate M.kinds.length (none : Option Int))) (fun _ => PyData.bool true)
          (wk_zipA (p := true) (q := false) (bump M.kinds v st.ki) (List.replicate M.kinds.length (none : Option Int)) .int dO (j := 11) (k := 12) (ead_cons (evd_var (i := 8) (v := x8) rfl h8) (ead_cons (evd_var (i := 2) (v := l) rfl (dp_ex e6 hl)) ead_nil))) (by rw [List.length_zip]; omega) fun i a σ2 H' hi e hS => by
            obtain ⟨z, z', ⟨a1, b1, e1, p1, p2⟩, rfl⟩ := hS
            refine ⟨rfl, evd_bl ?_⟩
            have hb1 : b1 = none := (List.mem_replicate.mp (List.of_mem_zip (List.mem_of_getElem? e1)).2).2
            subst hb1
            have q2 := dp_non (show Dp K H' z' .none from p2)
            subst q2
            exact ev_orV (a := true) (b := true) (ev_isN (ev_var (v := .non) rfl)) fun z => nomatch z
        have em1 : ((bump M.kinds v st.ki).zip (List.replicate M.kinds.length (none : Option Int))).map (fun _ => PyData.bool true) = (((bump M.kinds v st.ki).zip (List.replicate M.kinds.length (none : Option Int))).map fun _ => true).map PyData.bool := by rw [List.map_map]; rfl
        rw [em1] at key1
        have al := ev_all key1
        have ball : ((((bump M.kinds v st.ki).zip (List.replicate M.kinds.length (none : Option Int))).map fun _ => true).all id) = true := by
          rw [List.all_map]
          exact List.all_eq_true.mpr fun _ _ => rfl
        rw [ball] at al
        refine y_asg (P := fun v _ => v = .bl true) (evp_of al fun _ _ => rfl) f6.c fun v9 Hs7 H7 f7 h9 => ?_
        subst h9
        dsimp only
        have e7 := e6.trans f7.b
        have hg := hT.held st.go
        have key2 := evd_lcM (K := K) (σ := [some m, some (.ref d), some l, some (.int st.st), some (.str st.ki), some (.str st.se), some (.int st.go), some u, some x8, some (.bl true), c10, c11, c12, c13]) (H := Hs7) (vs := [13]) (te := tCall (spB K (rLBelow K)) [] E0 (tCons (tVar 13) (tCons (tVar 8) tNil))) (heldC cs st.go) (fun o => PyData.bool (below o (bump M.kinds v st.ki))) (wk_listA (heldC cs st.go) dV (j := 13) (evd_held (cv e7 rfl) (ev_var (i := 6) (v := .int st.go) rfl))) (by omega) fun i o σ2 H' hi ex' hS => by
          obtain ⟨z, ⟨a1, e1, p1⟩, rfl⟩ := hS
          rw [hi] at e1
          cases e1
          refine ⟨rfl, evd_bl (evb_callB (ds := [dV o, dV (bump M.kinds v st.ki)]) (ead_cons (evd_var (i := 13) (v := z) rfl p1) (ead_cons (evd_var (i := 8) (v := x8) rfl (dp_ex (f7.b.trans ex') h8)) ead_nil)) fun vs Hs' _ hvs => ?_)⟩
          obtain ⟨y, y2, rfl, hy, hy2⟩ := dps2 hvs
          exact ⟨y, y2, o, _, rfl, hy, hy2, by rw [hg.1 o (List.mem_of_getElem? hi)]; omega, rfl⟩
        have em2 : (heldC cs st.go).map (fun o => PyData.bool (below o (bump M.kinds v st.ki))) = ((heldC cs st.go).map fun o => below o (bump M.kinds v st.ki)).map PyData.bool := by rw [List.map_map]; rfl
        rw [em2] at key2
        have an := ev_any key2
        have bany : (((heldC cs st.go).map fun o => below o (bump M.kinds v st.ki)).any id) = true := by
          obtain ⟨o, ho, e⟩ := hC.step st hstm v hvm
          rw [List.any_map, List.any_eq_true]
          exact ⟨o, ho, e⟩
        rw [bany] at an
        refine y_if (et_and (et_B (ev_var (i := 9) (v := .bl true) rfl)) fun _ => et_not (et_B an)) f7.c (fun hb => by cases hb) fun _ H8 e8 => ?_
        refine y_next ?_
        have ff := ((f5.trans f6).trans f7).trans (Fw.skip f7.c e8)
        exact hN' _ Hs7 _ ff.m ⟨exi.trans ff.b, ehi.trans ff.a, _, _, _, _, _, _, _, rfl⟩
      · obtain ⟨exi, ehi, c7, c8, c9, c10, c11, c12, c13, rfl⟩ := iv
        exact hN _ Hs' _ (f4.m.trans f') ⟨e4.trans exi, eh.trans (f4.a.trans ehi), _, _, _, _, _, _, _, _, _, _, _, rfl⟩
    · obtain ⟨ex, eh, a3, a4, a5, a6, a7, a8, a9, a10, a11, a12, a13, rfl⟩ := iv
      dsimp only
      exact y_ret (evd_c (K := K) (.bl true)) f.c fun v Hs9 H9 f9 hv => by
        rw [dp_bl hv]
        exact kQ _ (eh.trans f9.a)
end
end K02
set_option Elab.async false
set_option linter.all false
set_option maxRecDepth 100000
set_option maxHeartbeats 1000000
/-! ### the law's machine is one of those -/
namespace K02
open PySem PySem.Spec PyProof.Rows L2 Evl
theorem mOk_of {n : Nat} {raw : List Stp} (R : Raw n raw) {kinds : List Str} (hk : ∀ k ∈ kinds, PyData.strOk k = true) (h : kindsIs raw kinds) (few : kinds.length ≤ 3) (sl : (sortS raw).length ≤ 100) : MOk (macOf n raw R kinds hk) := by
  obtain ⟨nd, km⟩ := h
  have mem : ∀ {j : Nat} {st : Stp}, st ∈ (macOf n raw R kinds hk).ways j → st ∈ sortS raw ∧ st.st = (j : Int) := fun {j st} hw => by
    have hw : st ∈ (sortS raw).filter fun s => decide (s.st = (j : Int)) := hw
    obtain ⟨h1, h2⟩ := List.mem_filter.mp hw
    exact ⟨h1, of_decide_eq_true h2⟩
  refine ⟨R.pos, R.small, few, fun j st hw => (R.ok st ((sortS_mem raw st).mp (mem hw).1)).go, nd, fun z => ((km _).mp z).1 rfl, fun j st hw => ?_, fun j _ st => ⟨fun hw => mem hw, fun hw => ?_⟩, fun st hs => (R.ok st ((sortS_mem raw st).mp hs)).st, fun j => ?_, sl⟩
  · by_cases q : st.ki = ("" : Str)
    · exact .inl q
    · exact .inr ((km _).mpr ⟨q, st, (sortS_mem raw st).mp (mem hw).1, rfl⟩)
  · exact List.mem_filter.mpr ⟨hw.1, decide_eq_true hw.2⟩
  · exact Nat.le_trans (List.length_filter_le _ _) sl
/-- at most three kinds, of x, y, z -/
theorem few_kinds {kinds : List Str} (nd : kinds.Nodup) (h : ∀ k ∈ kinds, k ∈ [("x" : Str), "y", "z"]) : kinds.length ≤ 3 :=
  nodup_le nd h
/-- the law's six bad inputs -/
theorem bad_in (n : Nat) : ∀ d ∈ [PyData.tuple [.int (n : Int)], .tuple [.int 1, .int 0], .list [.int 0], .tuple [.bool true], .tuple [.int 0, .int 0], .none], okStates n d = false := by
  intro d hd
  simp only [List.mem_cons, List.not_mem_nil, or_false] at hd
  rcases hd with rfl | rfl | rfl | rfl | rfl | rfl
  · unfold okStates
    simp [numIn]
  · unfold okStates
    simp [numIn]
  · rfl
  · rfl
  · unfold okStates
    simp [numIn]
  · rfl
end K02
set_option Elab.async false
set_option linter.all false
set_option maxRecDepth 100000
set_option maxHeartbeats 1000000
/-! ### what is held behind the search is closed under the steps -/
namespace K02
open PySem PySem.Spec PyProof.Rows L2 Evl
theorem belowO_none : ∀ (n : Nat) (v : Vec), belowO v (List.replicate n none) = true
  | 0, v => by
    unfold belowO
    rw [List.replicate_zero, List.zip_nil_right]
    rfl
  | n + 1, [] => by
    unfold belowO
    rw [List.zip_nil_left]
    rfl
  | n + 1, a :: v => by
    have ih := belowO_none n v
    unfold belowO at ih ⊢
    rw [List.replicate_succ, List.zip_cons_cons, List.all_cons, ih]
    rfl
theorem done_step {M : Mac} (O : MOk M) {W : WS} (D : WDone M (noLim M) W) {st : Stp} (hs : st ∈ M.steps) {v : Vec} (hv : v ∈ W.held st.st) : ∃ u ∈ W.held st.go, below u (bump M.kinds v st.ki) = true := by
  obtain ⟨j, hj, hjm⟩ := O.sst st hs
  have hw := (O.wst j hjm st).mpr ⟨hs, hj⟩
  obtain ⟨i, hi⟩ := List.mem_iff_getElem?.mp (D.inv.hr _ _ hv)
  exact D.inv.closed i (List.getElem?_eq_some_iff.mp hi).1 st.st v hi hv j hj st hw (belowO_none _ _)
theorem done_start {M : Mac} {W : WS} (D : WDone M (noLim M) W) : ∃ u ∈ W.held 0, below u (zeroV M.kinds) = true := D.start (belowO_none _ _)
theorem held_table {cs : List (Int × List Vec)} (hn : (cs.map (·.1)).Nodup) (s : Int) (v : Vec) : v ∈ heldC (tableL cs) s ↔ v ∈ heldC cs s := by
  unfold heldC
  constructor
  · intro h
    cases g : getA (tableL cs) s with
    | none => rw [g] at h; cases h
    | some l' =>
      rw [g] at h
      obtain ⟨l, h1, h2, h3⟩ := tableL_mem (getA_mem g)
      have h3 : l' = l.mergeSort vle := h3
      rw [getA_of_mem hn (k := s) (b := l) h1]
      have h : v ∈ l' := h
      rw [h3] at h
      exact ((List.mergeSort_perm l vle).mem_iff).mp h
  · intro h
    cases g : getA cs s with
    | none => rw [g] at h; cases h
    | some l =>
      rw [g] at h
      have h : v ∈ l := h
      have hne : l ≠ [] := List.ne_nil_of_mem h
      have hm : (s, l.mergeSort vle) ∈ tableL cs := by
        unfold tableL
        refine List.mem_map.mpr ⟨(s, l), List.mem_filter.mpr ⟨((sortC_perm cs).mem_iff).mpr (getA_mem g), decide_eq_true hne⟩, rfl⟩
      rw [getA_of_mem (tableL_nodup hn) (k := s) (b := l.mergeSort vle) hm]
      exact ((List.mergeSort_perm l vle).mem_iff).mpr h
theorem zero_any {kinds : List Str} {v : Vec} {r : List Stp} (h : fallsOf kinds r = v) (hb : below v (zeroV kinds) = true) : (v.any fun n => decide (n ≠ 0)) = false := by
  rw [List.any_eq_false]
  intro n hn hne
  obtain ⟨i, hi⟩ := List.mem_iff_getElem?.mp hn
  unfold below at hb
  rw [List.all_eq_true] at hb
  have hz : (zeroV kinds)[i]? = some 0 := by
    unfold fallsOf at h
    rw [← h, List.getElem?_map] at hi
    cases g : kinds[i]? with
    | none => rw [g] at hi; cases hi
    | some k => unfold zeroV; first | (rw [List.getElem?_map, g]; rfl) | (rw [List.getElem?_replicate, if_pos (List.getElem?_eq_some_iff.mp g).1])
  have hp := hb (n, 0) (List.mem_iff_getElem?.mpr ⟨i, by rw [List.getElem?_zip_eq_some]; exact ⟨hi, hz⟩⟩)
  have h1 : n ≤ 0 := of_decide_eq_true hp
  have h0 : 0 ≤ n := by
    unfold fallsOf at h
    rw [← h, List.getElem?_map] at hi
    cases g : kinds[i]? with
    | none => rw [g] at hi; cases hi
    | some k => rw [g] at hi; rw [← Option.some.inj hi]; exact Int.natCast_nonneg _
  have := of_decide_eq_true hne
  omega
theorem closed_table {M : Mac} (O : MOk M) {W : WS} (D : WDone M (noLim M) W) : ClosedOk M (tableL W.costs) := by
  refine ⟨?_, fun st hs v hv => ?_⟩
  · obtain ⟨u, hu, hb⟩ := done_start D
    obtain ⟨r, c⟩ := D.inv.came 0 u (D.inv.hr 0 u hu)
    exact ⟨u, (held_table D.inv.nd 0 u).mpr hu, zero_any c.falls hb⟩
  · obtain ⟨u, hu, hb⟩ := done_step O D hs ((held_table D.inv.nd st.st v).mp hv)
    exact ⟨u, (held_table D.inv.nd st.go u).mpr hu, hb⟩
end K02
set_option Elab.async false
set_option linter.all false
set_option maxRecDepth 100000
set_option maxHeartbeats 1000000
/-! ### what the law's own search reaches -/
namespace K02
open PySem PySem.Spec PyProof.Rows L2 Evl
inductive Rch (M : Mac) : Int → Vec → Prop
  | zero : Rch M 0 (zeroV M.kinds)
  | step {s : Int} {v : Vec} {st : Stp} : Rch M s v → st ∈ M.steps → st.st = s → (∀ n ∈ bump M.kinds v st.ki, n ≤ (M.many : Int)) → Rch M st.go (bump M.kinds v st.ki)
theorem rch_len {M : Mac} {s : Int} {v : Vec} (h : Rch M s v) : v.length = M.kinds.length := by
  induction h with
  | zero => unfold zeroV; rw [List.length_replicate]
  | step _ _ _ _ ih => exact bump_len _ ih
/-- above each that is reached lies.. below each lies a held one -/
theorem rch_held {M : Mac} (O : MOk M) {W : WS} (D : WDone M (noLim M) W) {s : Int} {v : Vec} (h : Rch M s v) : ∃ u ∈ W.held s, below u v = true := by
  induction h with
  | zero => exact done_start D
  | @step s v st h1 h2 h3 h4 ih =>
    obtain ⟨u, hu, hb⟩ := ih
    have lu : u.length = M.kinds.length := D.inv.lens _ _ (D.inv.hr s u hu)
    have lv := rch_len h1
    obtain ⟨t, ht, hb2⟩ := done_step O D h2 (v := u) (by rw [h3]; exact hu)
    have lt : t.length = M.kinds.length := D.inv.lens _ _ (D.inv.hr st.go t ht)
    exact ⟨t, ht, below_trans (by rw [lt, bump_len st.ki lu]) (by rw [bump_len st.ki lu, bump_len st.ki lv]) hb2 (bump_mono st.ki lu lv hb)⟩
/-- a run with at most so many steps is reached -/
theorem rch_run {M : Mac} (O : MOk M) : ∀ (r : List Stp), RunOk M 0 r → r.length ≤ M.many → ∀ k, k ≤ r.length → Rch M (endOf 0 (r.take k)) (fallsOf M.kinds (r.take k))
  | r, hr, hl, 0, _ => by
    rw [List.take_zero, fallsOf_nil]
    exact .zero
  | r, hr, hl, k + 1, hk => by
    have ih := rch_run O r hr hl k (by omega)
    have hkl : k < r.length := by omega
    have e1 : r[k]? = some r[k] := List.getElem?_eq_getElem hkl
    obtain ⟨j, hj, hjm, hjw⟩ := runOk_at hr e1
    obtain ⟨hs, hst⟩ := (O.wst j hjm _).mp hjw
    have et : r.take (k + 1) = r.take k ++ [r[k]] := by rw [List.take_add_one, e1]; rfl
    have hn : ∀ n ∈ bump M.kinds (fallsOf M.kinds (r.take k)) r[k].ki, n ≤ (M.many : Int) := fun n hn => by
      rw [← fallsOf_snoc] at hn
      have := (fallsOf_le _ _ hn).2
      rw [List.length_append, List.length_take, List.length_singleton] at this
      omega
    rw [et, endOf_snoc, fallsOf_snoc]
    exact .step ih hs (by rw [hst, hj]) hn
/-- each held one is reached -/
theorem held_rch {M : Mac} (O : MOk M) {W : WS} (D : WDone M (noLim M) W) {s : Int} {v : Vec} (h : v ∈ W.held s) : Rch M s v := by
  obtain ⟨r, c⟩ := D.inv.came s v (D.inv.hr s v h)
  have := rch_run O r c.run (Nat.le_of_lt (states_few c)) r.length (Nat.le_refl _)
  rw [List.take_length, c.fin, c.falls] at this
  exact this
end K02
set_option Elab.async false
set_option linter.all false
set_option maxRecDepth 100000
set_option maxHeartbeats 1000000
/-! ### the least ones of two lists -/
namespace K02
open PySem PySem.Spec PyProof.Rows L2 Evl
theorem mem_least (vs : List Vec) (v : Vec) : v ∈ leastOf vs ↔ v ∈ vs ∧ ∀ o ∈ vs, o ≠ v → below o v = false := by
  unfold leastOf
  rw [List.mem_filter, told_mem]
  refine and_congr_right fun _ => ?_
  unfold isLeast
  rw [Bool.not_eq_true', List.any_eq_false]
  constructor
  · intro h o ho hne
    have := h o ((told_mem vs o).mpr ho)
    simpa [hne] using this
  · intro h o ho
    by_cases q : o = v
    · simp [q]
    · have := h o ((told_mem vs o).mp ho) q
      simp [this]
theorem mem_least_eq {n : Nat} {A B : List Vec} (hA : ∀ v ∈ A, v.length = n) (hs : ∀ v ∈ B, v ∈ A) (hb : ∀ a ∈ A, ∃ b ∈ B, below b a = true) (v : Vec) : v ∈ leastOf A ↔ v ∈ leastOf B := by
  rw [mem_least, mem_least]
  constructor
  · rintro ⟨h1, h2⟩
    obtain ⟨b, hb1, hb2⟩ := hb v h1
    have e : b = v := by
      by_cases q : b = v
      · exact q
      · have := h2 b (hs b hb1) q
        rw [hb2] at this
        cases this
    subst e
    exact ⟨hb1, fun o ho hne => h2 o (hs o ho) hne⟩
  · rintro ⟨h1, h2⟩
    refine ⟨hs v h1, fun o ho hne => ?_⟩
    cases q : below o v with
    | false => rfl
    | true =>
      obtain ⟨b, hb1, hb2⟩ := hb o ho
      have lb := hA b (hs b hb1)
      have lo := hA o ho
      have lv := hA v (hs v h1)
      have hbv := below_trans (lb.trans lo.symm) (lo.trans lv.symm) hb2 q
      by_cases e : b = v
      · subst e
        exact absurd (below_antisymm (lo.trans lb.symm) q hb2) hne
      · have := h2 b hb1 e
        rw [hbv] at this
        cases this
end K02
set_option Elab.async false
set_option linter.all false
set_option maxRecDepth 100000
set_option maxHeartbeats 1000000
/-! ### the order of vectors; sorted lists with the same members -/
namespace K02
open PySem PySem.Spec PyProof.Rows L2 Evl
theorem vle_iff (a b : Vec) : vle a b = true ↔ a ≤ b := by
  unfold vle dV
  rw [PySem.W.dataLt_tuple]
  have h : PySem.W.rowLt (b.map .int) (a.map .int) = decide (b < a) := PySem.W.dataLt_ints b a
  show (!PySem.W.rowLt (b.map .int) (a.map .int)) = true ↔ _
  rw [h, Bool.not_eq_true', decide_eq_false_iff_not]
  exact List.not_lt
theorem vle_trans (a b c : Vec) (h1 : vle a b = true) (h2 : vle b c = true) : vle a c = true := by
  rw [vle_iff] at *
  exact List.le_trans h1 h2
theorem vle_total (a b : Vec) : (vle a b || vle b a) = true := by
  rw [Bool.or_eq_true, vle_iff, vle_iff]
  exact List.le_total a b
theorem vle_anti (a b : Vec) (h1 : vle a b = true) (h2 : vle b a = true) : a = b := by
  rw [vle_iff] at *
  exact List.le_antisymm h1 h2
abbrev Srt (l : List Vec) : Prop := l.Pairwise fun a b => vle a b = true
theorem srt_sort (l : List Vec) : Srt (l.mergeSort vle) := List.pairwise_mergeSort vle_trans vle_total l
theorem perm_of_mem {α : Type} [DecidableEq α] {l m : List α} (hl : l.Nodup) (hm : m.Nodup) (h : ∀ x, x ∈ l ↔ x ∈ m) : l.Perm m := (List.perm_ext_iff_of_nodup hl hm).mpr h
theorem srt_eq {l m : List Vec} (sl : Srt l) (sm : Srt m) (hl : l.Nodup) (hm : m.Nodup) (h : ∀ x, x ∈ l ↔ x ∈ m) : l = m :=
  List.Perm.eq_of_pairwise (fun a b _ _ h1 h2 => vle_anti a b h1 h2) sl sm (perm_of_mem hl hm h)
theorem sort_nodup {l : List Vec} (h : l.Nodup) : (l.mergeSort vle).Nodup := (List.mergeSort_perm l vle).nodup_iff.mpr h
theorem told_srt (vs : List Vec) : Srt (told vs) := srt_sort _
theorem told_nodup (vs : List Vec) : (told vs).Nodup := sort_nodup (dd_nodup vs)
/-- a sorted list of the members of vs, each once -/
theorem told_eq {vs l : List Vec} (hl : l.Nodup) (h : ∀ x, x ∈ l ↔ x ∈ vs) : l.mergeSort vle = told vs :=
  srt_eq (srt_sort l) (told_srt vs) (sort_nodup hl) (told_nodup vs) fun x => by rw [(List.mergeSort_perm l vle).mem_iff, h, told_mem]
theorem leastOf_srt (vs : List Vec) : Srt (leastOf vs) := (told_srt vs).filter _
theorem leastOf_nodup (vs : List Vec) : (leastOf vs).Nodup := (told_nodup vs).filter _
theorem leastOf_eq {n : Nat} {A B : List Vec} (hA : ∀ v ∈ A, v.length = n) (hs : ∀ v ∈ B, v ∈ A) (hb : ∀ a ∈ A, ∃ b ∈ B, below b a = true) : leastOf A = leastOf B :=
  srt_eq (leastOf_srt A) (leastOf_srt B) (leastOf_nodup A) (leastOf_nodup B) (mem_least_eq hA hs hb)
/-- a list that is sorted, without doubles, in which none is below another -/
structure LeastL (n : Nat) (l : List Vec) : Prop where
  srt : Srt l
  nd : l.Nodup
  one : ∀ v ∈ l, v.length = n
  anti : ∀ u ∈ l, ∀ v ∈ l, u ≠ v → below u v = false
theorem leastOf_least {n : Nat} {vs : List Vec} (h : ∀ v ∈ vs, v.length = n) : LeastL n (leastOf vs) :=
  ⟨leastOf_srt vs, leastOf_nodup vs, fun v hv => h v ((mem_least vs v).mp hv).1, fun u hu v hv hne => ((mem_least vs v).mp hv).2 u ((mem_least vs u).mp hu).1 hne⟩
/-- .. is its own list of least ones, also when told twice -/
theorem LeastL.same {n : Nat} {l m : List Vec} (h : LeastL n l) (hm : ∀ x, x ∈ m ↔ x ∈ l) : leastOf m = l := by
  refine srt_eq (leastOf_srt m) h.srt (leastOf_nodup m) h.nd fun v => ?_
  rw [mem_least]
  constructor
  · exact fun q => (hm v).mp q.1
  · exact fun q => ⟨(hm v).mpr q, fun o ho hne => h.anti o ((hm o).mp ho) v q hne⟩
theorem LeastL.self {n : Nat} {l : List Vec} (h : LeastL n l) : leastOf l = l := h.same fun _ => Iff.rfl
theorem LeastL.drop {n : Nat} {l : List Vec} (h : LeastL n l) (i : Nat) : LeastL n (l.take i ++ l.drop (i + 1)) := by
  have sub : (l.take i ++ l.drop (i + 1)).Sublist l := by
    have h1 : (l.take i ++ l.drop (i + 1)).Sublist (l.take i ++ l.drop i) := List.Sublist.append_left (by
      rw [← List.drop_drop]
      exact List.drop_sublist _ _) _
    rw [List.take_append_drop] at h1
    exact h1
  exact ⟨h.srt.sublist sub, h.nd.sublist sub, fun v hv => h.one v (sub.subset hv), fun u hu v hv => h.anti u (sub.subset hu) v (sub.subset hv)⟩
/-- above each lies a least one -/
theorem least_below {n : Nat} {vs : List Vec} (h : ∀ v ∈ vs, v.length = n) : ∀ (k : Nat) (v : Vec), v ∈ vs → (vs.filter fun o => decide (o ≠ v) && below o v).length ≤ k → ∃ m ∈ leastOf vs, below m v = true
  | k, v, hv, hk => by
    by_cases c : ∃ o ∈ vs, o ≠ v ∧ below o v = true
    · obtain ⟨o, ho, hne, hb⟩ := c
      have sub : ((vs.filter fun x => decide (x ≠ o) && below x o)).length < (vs.filter fun x => decide (x ≠ v) && below x v).length := by
        have h1 : (vs.filter fun x => decide (x ≠ o) && below x o) = (vs.filter fun x => decide (x ≠ v) && below x v).filter fun x => decide (x ≠ o) && below x o := by
          rw [List.filter_filter]
          refine List.filter_congr fun x hx => ?_
          by_cases q : x = o
          · simp [q]
          · by_cases q2 : below x o = true
            · have h3 := below_trans ((h x hx).trans (h o ho).symm) ((h o ho).trans (h v hv).symm) q2 hb
              have h4 : x ≠ v := fun e => by
                subst e
                exact hne (below_antisymm ((h o ho).trans (h x hx).symm) hb q2)
              simp [q, q2, h3, h4]
            · simp [q2]
        rw [h1]
        refine List.length_filter_lt_length_iff_exists.mpr ⟨o, List.mem_filter.mpr ⟨ho, by simp [hne, hb]⟩, by simp⟩
      match k, hk with
      | 0, hk => omega
      | k + 1, hk =>
        obtain ⟨m, hm, hmb⟩ := least_below h k o ho (by omega)
        exact ⟨m, hm, below_trans ((h m ((mem_least vs m).mp hm).1).trans (h o ho).symm) ((h o ho).trans (h v hv).symm) hmb hb⟩
    · refine ⟨v, (mem_least vs v).mpr ⟨hv, fun o ho hne => ?_⟩, below_refl v⟩
      cases q : below o v with
      | false => rfl
      | true => exact absurd ⟨o, ho, hne, q⟩ c
theorem least_under {n : Nat} {vs : List Vec} (h : ∀ v ∈ vs, v.length = n) {v : Vec} (hv : v ∈ vs) : ∃ m ∈ leastOf vs, below m v = true := least_below h _ v hv (Nat.le_refl _)
theorem least_nil {n : Nat} {vs : List Vec} (h : ∀ v ∈ vs, v.length = n) : leastOf vs = [] ↔ vs = [] := by
  constructor
  · intro e
    cases vs with
    | nil => rfl
    | cons v vs =>
      obtain ⟨m, hm, _⟩ := least_under h (v := v) List.mem_cons_self
      rw [e] at hm
      cases hm
  · intro e
    subst e
    exact List.eq_nil_iff_forall_not_mem.mpr fun v hv => by cases ((mem_least [] v).mp hv).1
end K02
set_option Elab.async false
set_option linter.all false
set_option maxRecDepth 100000
set_option maxHeartbeats 1000000
set_option exponentiation.threshold 600
/-! ### sets of tuples of ints, up to two hundred: the tables -/
namespace K02
open PySem PySem.Spec PyProof.Rows L2 Evl

/-! the masks: also 511 -/
def orbF : Nat → Nat → Nat → Nat
  | 0, _, acc => acc
  | n + 1, x, acc => orbF n ((x * 5 + 1) % 512) (acc ||| 2 ^ x)
theorem orbF_all : orbF 512 0 0 = 2 ^ 512 - 1 := by decide +kernel
theorem lcgI_next (m i : Nat) : ∀ k, lcgI m ((i * 5 + 1) % (m + 1)) k = lcgI m i (k + 1)
  | 0 => rfl
  | k + 1 => by
    have ih := lcgI_next m i k
    rw [lcgI, ih]
    rfl
theorem lcgI_plus (m i a : Nat) : ∀ k, lcgI m (lcgI m i a) k = lcgI m i (a + k)
  | 0 => rfl
  | k + 1 => by
    have ih := lcgI_plus m i a k
    rw [lcgI, ih]
    rfl
theorem orbF_bit : ∀ (n x acc j : Nat), (orbF n x acc).testBit j = true → acc.testBit j = true ∨ ∃ k, k < n ∧ lcgI 511 x k = j
  | 0, _, _, _, h => .inl h
  | n + 1, x, acc, j, h => by
    rcases orbF_bit n _ _ j h with h | ⟨k, hk, e⟩
    · rw [Nat.testBit_or, Bool.or_eq_true] at h
      rcases h with h | h
      · exact .inl h
      · rw [Nat.testBit_two_pow] at h
        exact .inr ⟨0, Nat.succ_pos _, of_decide_eq_true h⟩
    · exact .inr ⟨k + 1, by omega, (lcgI_next 511 x k).symm.trans e⟩
theorem orb_hit {j : Nat} (hj : j ≤ 511) : ∃ k, k < 512 ∧ lcgI 511 0 k = j := by
  have h : (orbF 512 0 0).testBit j = true := by
    rw [orbF_all, Nat.testBit_two_pow_sub_one]
    exact decide_eq_true (by omega)
  rcases orbF_bit 512 0 0 j h with h | h
  · rw [Nat.zero_testBit] at h
    cases h
  · exact h
theorem orb_round : lcgI 511 0 512 = 0 := by decide +kernel
theorem orb_from {i j : Nat} (hi : i ≤ 511) (hj : j ≤ 511) : ∃ k, k ≤ 511 ∧ lcgI 511 i k = j := by
  obtain ⟨a, ha, ea⟩ := orb_hit hi
  obtain ⟨b, hb, eb⟩ := orb_hit hj
  subst ea
  by_cases c : a ≤ b
  · exact ⟨b - a, by omega, by rw [lcgI_plus, Nat.add_sub_cancel' c]; exact eb⟩
  · refine ⟨b + 512 - a, by omega, ?_⟩
    have e : a + (b + 512 - a) = 512 + b := by omega
    rw [lcgI_plus, e, ← lcgI_plus, orb_round]
    exact eb
/-- the masks that come here -/
def Mk (m : Nat) : Prop := MaskOk m ∨ m = 511
theorem Mk.odd {m : Nat} (h : Mk m) : m % 2 = 1 := by
  rcases h with h | h
  · exact mask_odd h
  · rw [h]
theorem Mk.top {m : Nat} (h : Mk m) : m ≤ 511 := by
  rcases h with (h | h | h) | h <;> rw [h] <;> decide
theorem Mk.hit {m : Nat} (g : Mk m) (h : Int) {j : Nat} (hj : j ≤ m) : ∃ n, n ≤ m + 12 ∧ runI m (SetTable.bits h) n = j := by
  rcases g with g | g
  · exact run_meets g h hj
  · subst g
    obtain ⟨k, hk, e⟩ := orb_from (runI_le 511 (SetTable.bits h) 12) hj
    exact ⟨12 + k, by omega, (runI_tail (bits_lt h) k).trans e⟩
theorem way_low (m : Nat) (h : Int) (k : Nat) : way m h k ≤ m := by
  have b := runEnd_bd (m := m) (i := SetTable.bits h % (m + 1)) (Nat.le_of_lt_succ (Nat.mod_lt _ (Nat.succ_pos _)))
  have q := nth_in (m := m) k (runAt m (SetTable.bits h % (m + 1)) (SetTable.bits h)) (by unfold runAt; dsimp only; omega)
  exact Nat.le_trans (Nat.le_add_right _ _) q
/-- the first step of the way of which p is not -/
theorem way_first {m : Nat} (g : Mk m) (h : Int) (p : Nat → Prop) {j : Nat} (hj : j ≤ m) (hp : ¬ p j) : ∃ K, K < 10 * SetTable.turns m ∧ ¬ p (way m h K) ∧ ∀ k, k < K → p (way m h k) := by
  obtain ⟨n, hn, e⟩ := g.hit h hj
  obtain ⟨c, hc, e2⟩ := run_nth m (SetTable.bits h) n
  have e3 : way m h c = j := (congrArg SetTable.Probe.j e2).trans e
  obtain ⟨K, k1, k2, k3⟩ := st_least (p := fun k => ¬ p (way m h k)) c (fun z => hp (e3 ▸ z))
  exact ⟨K, by unfold SetTable.turns; omega, k2, fun k hk => Classical.byContradiction fun z => k3 k hk z⟩

/-! laying anew -/
theorem free_first {m : Nat} (g : Mk m) (own : Array (Option Nat)) (h : Int) {j : Nat} (hj : j ≤ m) (hf : oAt own j = none) :
    ∃ K, SetTable.layClean.free m own (SetTable.turns m) (SetTable.bits h % (m + 1)) (SetTable.bits h) = some (way m h K) ∧ oAt own (way m h K) = none ∧ ∀ k, k < K → oAt own (way m h k) ≠ none := by
  obtain ⟨n, hn, e⟩ := g.hit h hj
  have e2 : way m h (off m (SetTable.bits h % (m + 1)) (SetTable.bits h) n) = j := by
    unfold way
    rw [nth_off, itL_run]
    exact e
  obtain ⟨K, k1, k2, k3⟩ := st_least (p := fun k => oAt own (way m h k) = none) (off m (SetTable.bits h % (m + 1)) (SetTable.bits h) n) (by rw [e2]; exact hf)
  have nn : ∀ k, k < K → (oAt own (way m h k)).isNone = false := fun k hk => by
    have := k3 k hk
    cases z : oAt own (way m h k) with
    | none => exact absurd z this
    | some _ => rfl
  exact ⟨K, free_spec m own (SetTable.turns m) n _ _ K (by unfold SetTable.turns; omega) k1 nn (by rw [k2]; rfl), k2, k3⟩
theorem own_next {m : Nat} (g : Mk m) {done : List Int} {own : Array (Option Nat)} (W : Own m done own) (hl : done.length ≤ m) (h : Int) :
    ∃ j, stepF m (some (own, done.length)) h = some (own.setIfInBounds j (some done.length), (done ++ [h]).length) ∧ Own m (done ++ [h]) (own.setIfInBounds j (some done.length)) := by
  obtain ⟨occ, o1, o2⟩ := W.ps
  obtain ⟨f, f1, f2⟩ := st_missing occ (m + 1) (by rw [o1]; omega)
  have ff : oAt own f = none := Classical.byContradiction fun z => f2 (o2 f (by omega) z)
  obtain ⟨K, q1, q2, q3⟩ := free_first g own h (by omega) ff
  have qs : way m h K < own.size := by
    have := way_low m h K
    rw [W.sz]
    omega
  have here := oAt_set_self (some done.length) qs
  have stay : ∀ {i : Nat}, i ≠ way m h K → oAt (own.setIfInBounds (way m h K) (some done.length)) i = oAt own i := fun hi => oAt_set_ne _ hi
  have more : ∀ {i : Nat}, oAt own i ≠ none → oAt (own.setIfInBounds (way m h K) (some done.length)) i ≠ none := fun {i} hi => by
    by_cases c : i = way m h K
    · subst c
      exact absurd q2 hi
    · rw [stay c]
      exact hi
  have dl : (done ++ [h]).length = done.length + 1 := by simp
  refine ⟨way m h K, by rw [stepF_some q1, dl], ⟨by rw [Array.size_setIfInBounds, W.sz], ?_, ?_, ?_⟩⟩
  · intro j k hj e
    by_cases c : j = way m h K
    · subst c
      rw [here] at e
      cases e
      exact ⟨h, K, by simp, rfl, fun k' hk' => more (q3 k' hk')⟩
    · rw [stay c] at e
      obtain ⟨h', K', a1, a2, a3⟩ := W.at_ j k hj e
      have hlt := (List.getElem?_eq_some_iff.mp a1).1
      exact ⟨h', K', by rw [List.getElem?_append_left hlt]; exact a1, a2, fun k' hk' => more (a3 k' hk')⟩
  · intro k hk
    rw [dl] at hk
    by_cases c : k = done.length
    · subst c
      exact ⟨_, way_low m h K, here⟩
    · obtain ⟨j, hj, e⟩ := W.all k (by omega)
      refine ⟨j, hj, ?_⟩
      have hne : j ≠ way m h K := fun z => by
        subst z
        rw [q2] at e
        cases e
      rw [stay hne]
      exact e
  · refine ⟨way m h K :: occ, by rw [dl, List.length_cons, o1], fun j hj e => ?_⟩
    by_cases c : j = way m h K
    · exact c ▸ List.mem_cons_self
    · rw [stay c] at e
      exact List.mem_cons_of_mem _ (o2 j hj e)
theorem own_all {m : Nat} (g : Mk m) : ∀ (rest done : List Int) (own : Array (Option Nat)), Own m done own → done.length + rest.length ≤ m →
    ∃ own', rest.foldl (stepF m) (some (own, done.length)) = some (own', (done ++ rest).length) ∧ Own m (done ++ rest) own'
  | [], done, own, W, _ => by
    rw [List.append_nil]
    exact ⟨own, rfl, W⟩
  | h :: rest, done, own, W, hl => by
    have hl' : done.length + (rest.length + 1) ≤ m := hl
    obtain ⟨j, e, W2⟩ := own_next g W (by omega) h
    obtain ⟨own', f, W3⟩ := own_all g rest (done ++ [h]) _ W2 (by simp; omega)
    rw [List.append_assoc] at f W3
    exact ⟨own', by rw [List.foldl_cons, e]; exact f, W3⟩
theorem lay_all {m : Nat} (g : Mk m) (hs : Array Int) (hn : hs.size ≤ m) : ∃ own, SetTable.layClean m hs = some own ∧ Own m hs.toList own := by
  obtain ⟨own, f, W⟩ := own_all g hs.toList [] _ (Own.init m) (by simpa using hn)
  refine ⟨own, ?_, W⟩
  rw [layClean_eq, show (0 : Nat) = ([] : List Int).length from rfl, f]
  rfl

/-! a set -/
/-- an entry: where the tuple stands, what it holds, the slot -/
structure Ent where
  a : Addr
  k : List Int
  j : Nat
section
variable {P : Program} {w : World}
abbrev hE (P : Program) (w : World) (e : Ent) : Int := thash P w e.k
/-- the table of some entries -/
structure Tb (P : Program) (w : World) (t : SetTable) (L : List Ent) : Prop where
  pl : t.place.toList = L.map (·.j)
  up : Ris (L.map (·.j))
  dm : t.dummies = #[]
  msk : Mk t.mask
  low : ∀ e ∈ L, e.j ≤ t.mask
  met : ∀ e ∈ L, ∃ k, way t.mask (hE P w e) k = e.j ∧ ∀ k', k' < k → way t.mask (hE P w e) k' ∈ L.map (·.j)
theorem Tb.size {t : SetTable} {L : List Ent} (T : Tb P w t L) : t.place.size = L.length := by
  rw [← Array.length_toList, T.pl, List.length_map]
theorem Tb.first {t : SetTable} {L : List Ent} (T : Tb P w t L) (hl : L.length ≤ t.mask) (h : Int) : ∃ K, K < 10 * SetTable.turns t.mask ∧ way t.mask h K ∉ L.map (·.j) ∧ ∀ k, k < K → way t.mask h k ∈ L.map (·.j) := by
  obtain ⟨f, f1, f2⟩ := st_missing (L.map (·.j)) (t.mask + 1) (by rw [List.length_map]; omega)
  exact way_first T.msk h (fun j => j ∈ L.map (·.j)) (by omega) f2
theorem Tb.before {t : SetTable} {L : List Ent} (T : Tb P w t L) {e : Ent} (he : e ∈ L) {K : Nat} (hK : way t.mask (hE P w e) K ∉ L.map (·.j)) : ∃ k, k < K ∧ way t.mask (hE P w e) k = e.j := by
  obtain ⟨k, k1, k2⟩ := T.met e he
  have hj : e.j ∈ L.map (·.j) := List.mem_map.mpr ⟨e, he, rfl⟩
  refine ⟨k, Nat.lt_of_le_of_ne (Nat.le_of_not_lt fun c => hK (k2 K c)) fun c => ?_, k1⟩
  subst c
  rw [k1] at hK
  exact hK hj
/-- one more -/
theorem Tb.add {t : SetTable} {L : List Ent} (T : Tb P w t L) (x : Addr) (k : List Int) {K : Nat} (hK : way t.mask (thash P w k) K ∉ L.map (·.j)) (hb : ∀ c, c < K → way t.mask (thash P w k) c ∈ L.map (·.j)) :
    ∃ p, p = SetTable.below t.place (way t.mask (thash P w k) K) ∧ p ≤ L.length ∧ Tb P w (t.put (way t.mask (thash P w k) K)).1 (L.take p ++ ⟨x, k, way t.mask (thash P w k) K⟩ :: L.drop p) := by
  obtain ⟨c1, _, _⟩ := below_cut (xs := t.place) (by rw [T.pl]; exact T.up) (way t.mask (thash P w k) K)
  refine ⟨_, rfl, by rw [← T.size]; exact c1, ?_⟩
  generalize hj : way t.mask (thash P w k) K = j at *
  have em : (L.take (SetTable.below t.place j) ++ (⟨x, k, j⟩ : Ent) :: L.drop (SetTable.below t.place j)).map (·.j) = (L.map (·.j)).take (SetTable.below t.place j) ++ j :: (L.map (·.j)).drop (SetTable.below t.place j) := by
    rw [List.map_append, List.map_cons, List.map_take, List.map_drop]
  have pp := put_place t j
  rw [T.pl, ← em] at pp
  have inm : ∀ {y : Nat}, y ∈ L.map (·.j) → y ∈ (L.take (SetTable.below t.place j) ++ (⟨x, k, j⟩ : Ent) :: L.drop (SetTable.below t.place j)).map (·.j) := fun hy => by
    rw [em]
    exact mem_ins.mpr (.inr hy)
  have np : t.place[SetTable.below t.place j]? ≠ some j := fun z => hK (by
    rw [← T.pl]
    exact List.mem_of_getElem? (by rw [Array.getElem?_toList]; exact z))
  have ri : Ris (t.put j).1.place.toList := ris_insert (by rw [T.pl]; exact T.up) np
  refine ⟨pp, by rw [← pp]; exact ri, put_dm T.dm j, T.msk, fun e he => ?_, fun e he => ?_⟩
  · rcases mem_ins.mp he with z | z
    · subst z
      rw [← hj]
      exact way_low _ _ _
    · exact T.low e z
  · rcases mem_ins.mp he with z | z
    · subst z
      exact ⟨K, hj, fun c hc => inm (hb c hc)⟩
    · obtain ⟨c, c1, c2⟩ := T.met e z
      exact ⟨c, c1, fun c' hc' => inm (c2 c' hc')⟩
def noE : Ent := ⟨0, [], 0⟩
/-- the table laid anew -/
theorem tb_lay (t : SetTable) (L : List Ent) (hs : Array Int) (hh : hs.toList = L.map (hE P w)) {want M : Nat} (hw : SetTable.sizeAbove want - 1 = M) (hM : Mk M) (hn : L.length ≤ M) :
    ∃ (t' : SetTable) (live : List (Nat × Nat)), t.relaid hs want = some (t', (live.map (·.2)).toArray) ∧ (live.map (·.2)).Perm (List.range L.length) ∧ Tb P w t' (live.map fun q : Nat × Nat => { L.getD q.2 noE with j := q.1 }) ∧ t'.mask = M ∧ t'.led = t.led ∧ t'.plain = t.plain := by
  have hsz : hs.size = L.length := by rw [← Array.length_toList, hh, List.length_map]
  obtain ⟨own, e, W⟩ := lay_all hM hs (by rw [hsz]; exact hn)
  rw [hh] at W
  have W' := W.all
  rw [List.length_map] at W'
  obtain ⟨r1, r2⟩ := ris_live (fun j => own.getD j none) (List.range (M + 1)) List.pairwise_lt_range
  change Ris ((liveOf M own).map (·.1)) at r1
  change ∀ x ∈ (liveOf M own).map (·.1), x ∈ List.range (M + 1) at r2
  have small : (liveOf M own).length ≤ L.length := by
    obtain ⟨occ, o1, o2⟩ := W.ps
    rw [List.length_map] at o1
    have nd : ((liveOf M own).map (·.1)).Nodup := List.Pairwise.imp (fun h => Nat.ne_of_lt h) r1
    have := nat_nodup_len _ occ nd fun x hx => by
      obtain ⟨⟨y, c⟩, hq, rfl⟩ := List.mem_map.mp hx
      obtain ⟨b1, b2⟩ := (mem_live W.sz).mp hq
      exact o2 y b1 (by rw [b2]; exact fun z => nomatch z)
    rw [List.length_map] at this
    omega
  have inl : ∀ c, c < L.length → c ∈ (liveOf M own).map (·.2) := fun c hc => by
    obtain ⟨j, b1, b2⟩ := W' c hc
    exact List.mem_map.mpr ⟨(j, c), (mem_live W.sz).mpr ⟨b1, b2⟩, rfl⟩
  have big := nat_nodup_len (List.range L.length) ((liveOf M own).map (·.2)) List.nodup_range fun c hc => inl c (List.mem_range.mp hc)
  rw [List.length_range, List.length_map] at big
  have pm := perm_range L.length ((liveOf M own).map (·.2)) (by rw [List.length_map]; omega) inl
  have ej : ((liveOf M own).map fun q : Nat × Nat => ({ L.getD q.2 noE with j := q.1 } : Ent)).map (·.j) = (liveOf M own).map (·.1) := by
    rw [List.map_map]
    rfl
  refine ⟨tabOf t M own, liveOf M own, by rw [relaid_eq, hw, e]; rfl, pm, ⟨by rw [ej]; rfl, by rw [ej]; exact r1, rfl, hM, fun en he => ?_, fun en he => ?_⟩, rfl, rfl, rfl⟩
  · obtain ⟨q, hq, rfl⟩ := List.mem_map.mp he
    exact Nat.le_of_lt_succ (List.mem_range.mp (r2 q.1 (List.mem_map.mpr ⟨q, hq, rfl⟩)))
  · obtain ⟨⟨y, c⟩, hq, rfl⟩ := List.mem_map.mp he
    obtain ⟨b1, b2⟩ := (mem_live W.sz).mp hq
    obtain ⟨h0, K, a1, a2, a3⟩ := W.at_ y c b1 b2
    rw [List.getElem?_map] at a1
    cases g : L[c]? with
    | none =>
      rw [g] at a1
      cases a1
    | some en =>
      rw [g] at a1
      cases a1
      have eg : L.getD c noE = en := by rw [List.getD_eq_getElem?_getD, g]; rfl
      rw [ej]
      refine ⟨K, by show way M (thash P w (L.getD c noE).k) K = y; rw [eg]; exact a2, fun k' hk' => ?_⟩
      show way M (thash P w (L.getD c noE).k) k' ∈ _
      rw [eg]
      cases z : oAt own (way M (thash P w en.k) k') with
      | none => exact absurd z (a3 k' hk')
      | some c2 => exact List.mem_map.mpr ⟨(_, c2), (mem_live W.sz).mpr ⟨way_low _ _ _, z⟩, rfl⟩
end
end K02
set_option Elab.async false
set_option linter.all false
set_option maxRecDepth 100000
set_option maxHeartbeats 1000000
/-! ### sets of tuples of ints, up to two hundred: searching, adding -/
namespace K02
open PySem PySem.Spec PyProof.Rows L2 Evl
theorem fits_of {t : SetTable} {n : Nat} (h1 : t.place.size = n) (h2 : t.dummies = #[]) (h3 : n ≤ t.mask) : t.fits n = true := by
  unfold SetTable.fits SetTable.fill
  rw [h2, h1]
  simp [h3]
theorem nth_dm (m : Nat) : ∀ (n : Nat) (p : SetTable.Probe), p.dummy = none → (nth m p n).dummy = none
  | 0, _, h => h
  | n + 1, p, h => nth_dm m n (adv m p) (by unfold adv; split <;> exact h)
section
variable {P : Program} {w : World} {A : Around} {E : Value → Shared → Prop} {s : Shared} {a : Addr} {L : List Ent} {es : Array (Int × Value)} {ep : Nat} {t : SetTable}
abbrev aK (e : Ent) : Addr × List Int := (e.a, e.k)
abbrev rowE (P : Program) (w : World) (e : Ent) : Int × Value := (hE P w e, Value.ref e.a)
/-- the set at a -/
structure SR (P : Program) (w : World) (h : Heap) (a : Addr) (L : List Ent) (es : Array (Int × Value)) (ep : Nat) (t : SetTable) : Prop where
  ob : ∃ o, h.get? a = some o ∧ o.ExactSet ∧ o.data = .set es ep t
  rows : es.toList = L.map (rowE P w)
  tb : Tb P w t L
  nd : (L.map (·.k)).Nodup
  tup : ∀ e ∈ L, IsT P w h e.k e.a
  plain : t.plain = true
  led : w.params.followText "set-order" = true ∨ t.led = true
  room : L.length * 5 < t.mask * 3
theorem SR.len (R : SR P w s.heap a L es ep t) : es.size = L.length := by
  rw [← Array.length_toList, R.rows, List.length_map]
theorem SR.fits (R : SR P w s.heap a L es ep t) : t.fits es.size = true := by
  have := R.room
  exact fits_of (by rw [R.len, R.tb.size]) R.tb.dm (by rw [R.len]; omega)
theorem row_at (hr : es.toList = L.map (rowE P w)) {i : Nat} {e : Ent} (h : L[i]? = some e) : es[i]? = some (rowE P w e) := by
  rw [← Array.getElem?_toList, hr, List.getElem?_map, h]
  rfl
theorem SR.gave (R : SR P w s.heap a L es ep t) : ¬ t.gaveWay = true := by
  unfold SetTable.gaveWay
  rw [R.tb.msk.odd]
  decide
/-- what a probe says from the c-th step of the way -/
theorem probe_at (T : Tb P w t L) (hr : es.toList = L.map (rowE P w)) {h : Int} {K c : Nat} (hf : K < 10 * SetTable.turns t.mask) (hK : way t.mask h K ∉ L.map (·.j)) (hb : ∀ c, c < K → way t.mask h c ∈ L.map (·.j)) (hc : c ≤ K) :
    (∃ q i e, c ≤ q ∧ q < K ∧ L[i]? = some e ∧ e.j = way t.mask h q ∧ (∀ q' e', c ≤ q' → q' < q → e' ∈ L → e'.j = way t.mask h q' → hE P w e' ≠ h) ∧
      t.probe (fun i => (es[i]?.map (·.1)).getD 0) h (nth t.mask (t.probeStart h) c) = some (.candidate (way t.mask h q) i (nth t.mask (t.probeStart h) (q + 1)))) ∨
    ((∀ q' e', c ≤ q' → q' < K → e' ∈ L → e'.j = way t.mask h q' → hE P w e' ≠ h) ∧ t.probe (fun i => (es[i]?.map (·.1)).getD 0) h (nth t.mask (t.probeStart h) c) = some (.empty (way t.mask h K) none)) := by
  have sh : ∀ q, nth t.mask (nth t.mask (t.probeStart h) c) q = nth t.mask (t.probeStart h) (c + q) := fun q => (nth_add t.mask c _ q).symm
  have sj : ∀ q, (nth t.mask (nth t.mask (t.probeStart h) c) q).j = way t.mask h (c + q) := fun q => congrArg SetTable.Probe.j (sh q)
  have hash : ∀ {i : Nat} {e : Ent}, L[i]? = some e → (es[i]?.map (·.1)).getD 0 = hE P w e := fun hi => by
    rw [row_at hr hi]
    rfl
  have plc : ∀ {i : Nat} {e : Ent}, L[i]? = some e → t.place.toList[i]? = some e.j := fun hi => by
    rw [T.pl, List.getElem?_map, hi]
    rfl
  have spec := go_spec t (by rw [T.pl]; exact T.up) T.dm (fun i => (es[i]?.map (·.1)).getD 0) h (10 * SetTable.turns t.mask) (K - c) _ (nth_dm t.mask c (t.probeStart h) rfl) (by omega)
    (fun q hq => by rw [sj, T.pl]; exact hb _ (by omega)) (by rw [sj, T.pl, Nat.add_sub_cancel' hc]; exact hK)
  rcases spec with ⟨q, i, h1, h2, h3, h4, h5⟩ | ⟨h1, h2⟩
  · rw [sj] at h2
    rw [T.pl, List.getElem?_map] at h2
    cases g : L[i]? with
    | none => rw [g] at h2; cases h2
    | some e =>
      rw [g] at h2
      refine .inl ⟨c + q, i, e, by omega, by omega, g, Option.some.inj h2, fun q' e' l1 l2 he' hj' hh => ?_, ?_⟩
      · obtain ⟨i', hi'⟩ := List.mem_iff_getElem?.mp he'
        refine h4 (q' - c) i' (by omega) ?_ ((hash hi').trans hh)
        rw [sj, Nat.add_sub_cancel' l1, plc hi', hj']
      · rw [sj, sh] at h5
        exact h5
  · refine .inr ⟨fun q' e' l1 l2 he' hj' hh => ?_, ?_⟩
    · obtain ⟨i', hi'⟩ := List.mem_iff_getElem?.mp he'
      refine h1 (q' - c) i' (by omega) ?_ ((hash hi').trans hh)
      rw [sj, Nat.add_sub_cancel' l1, plc hi', hj']
    · rw [sj, Nat.add_sub_cancel' hc] at h2
      exact h2
/-- the search that adding asks for -/
theorem look_from (R : SR P w s.heap a L es ep t) {x : Addr} {k : List Int} (hx : IsT P w s.heap k x) (hu : A.units < cLine) {K : Nat} (hf : K < 10 * SetTable.turns t.mask)
    (hK : way t.mask (thash P w k) K ∉ L.map (·.j)) (hb : ∀ c, c < K → way t.mask (thash P w k) c ∈ L.map (·.j)) {Q : SetFound → Shared → Prop}
    (yes : k ∈ L.map (·.k) → Q (.there none) s) (no : k ∉ L.map (·.k) → Q (.free (way t.mask (thash P w k) K) false) s) :
    ∀ (f c : Nat) (stand : Option SetTable.Probe), stand.getD (t.probeStart (thash P w k)) = nth t.mask (t.probeStart (thash P w k)) c → c ≤ K → K < f + c → (∀ e ∈ L, e.k = k → ∃ c', c ≤ c' ∧ c' < K ∧ e.j = way t.mask (thash P w k) c') →
      wpAny (model P w) A (setSearchFrom a (.ref x) (thash P w k) true f stand) Q E s
  | 0, c, stand, _, hc, hl, _ => absurd hl (by omega)
  | f + 1, c, stand, hst, hc, hl, hre => by
    obtain ⟨o, g1, g2, g3⟩ := R.ob
    rw [setSearchFrom_succ]
    refine wpAny_bind (wpAny_setState_of g1 g3 R.fits ?_)
    dsimp only
    refine wp_if_neg R.gave ?_
    try refine wpAny_bind (wpAny_pure ?_)
    rw [hst]
    rcases probe_at R.tb R.rows hf hK hb hc with ⟨q, i, e, q1, q2, q3, q4, q5, q6⟩ | ⟨q5, q6⟩
    · rw [q6]
      dsimp only
      have he := List.mem_of_getElem? q3
      have plc : ∀ {i : Nat} {e : Ent}, L[i]? = some e → t.place.toList[i]? = some e.j := fun hi => by
        rw [R.tb.pl, List.getElem?_map, hi]
        rfl
      have sl : ∀ {i : Nat} {e : Ent}, L[i]? = some e → t.slot e.j = .live i := fun hi => slot_live (by rw [R.tb.pl]; exact R.tb.up) (plc hi)
      have rest : wpAny (model P w) A (searchRest a (.ref x) (thash P w k) true f es t (way t.mask (thash P w k) q) i (nth t.mask (t.probeStart (thash P w k)) (q + 1))) Q E s := by
        unfold searchRest
        rw [row_at R.rows q3]
        dsimp only
        refine wpAny_bind (wpAny_holding (wpAny_eqBool_tuple hu (R.tup e he) hx ?_))
        refine wpAny_bind (wpAny_setState_of g1 g3 R.fits ?_)
        dsimp only
        by_cases kk : e.k = k
        · exact wp_if_pos (by simp [kk]) (wpAny_pure (yes (List.mem_map.mpr ⟨e, he, kk⟩)))
        · refine wp_if_neg (by simp [kk]) ?_
          try refine wpAny_bind (wpAny_pure ?_)
          rw [sameMem]
          dsimp only
          have sl0 : t.slot (way t.mask (thash P w k) q) = .live i := by rw [← q4]; exact sl q3
          simp only [if_true, sl0, row_at R.rows q3]
          refine wpAny_bind (wpAny_isSame_ref_self (wpAny_bind (wpAny_pure ?_)))
          simp only [if_true]
          refine wp_if_neg (by simp [kk]) ?_
          refine look_from R hx hu hf hK hb yes no f (q + 1) _ rfl (by omega) (by omega) fun e' he' hk' => ?_
          obtain ⟨c', c1, c2, c3⟩ := hre e' he' hk'
          refine ⟨c', ?_, c2, c3⟩
          rcases Nat.lt_trichotomy c' q with z | z | z
          · exact absurd (congrArg (thash P w) hk') (q5 c' e' c1 z he' c3)
          · subst z
            obtain ⟨i', hi'⟩ := List.mem_iff_getElem?.mp he'
            have s1 := sl hi'
            rw [c3, sl0] at s1
            injection s1 with s1
            subst s1
            rw [q3] at hi'
            cases hi'
            exact absurd hk' kk
          · exact z
      by_cases ld : t.led = true
      · refine wp_if_neg (by simp [ld]) ?_
        try refine wpAny_bind (wpAny_pure ?_)
        exact rest
      · refine wp_if_pos (by simp [ld]) ?_
        refine wpAny_bind (seen_tup hx (fun y hy => ?_) ?_)
        · obtain ⟨r, hr, rfl⟩ := List.mem_map.mp hy
          have hr2 : r ∈ es.toList := by
            have : r ∈ es ∧ r.1 = thash P w k := by simpa using hr
            simpa using this.1
          rw [R.rows] at hr2
          obtain ⟨e2, m2, rfl⟩ := List.mem_map.mp hr2
          exact ⟨e2.k, e2.a, rfl, R.tup e2 m2⟩
        · refine wp_if_neg (by decide) ?_
          try refine wpAny_bind (wpAny_pure ?_)
          exact rest
    · rw [q6]
      dsimp only
      refine wpAny_pure (no fun hm => ?_)
      obtain ⟨e', he', hk'⟩ := List.mem_map.mp hm
      obtain ⟨c', c1, c2, c3⟩ := hre e' he' hk'
      exact q5 c' e' c1 c2 he' c3 (congrArg (thash P w) hk')
theorem look (R : SR P w s.heap a L es ep t) {x : Addr} {k : List Int} (hx : IsT P w s.heap k x) (hu : A.units < cLine) {Q : SetFound → Shared → Prop} (yes : k ∈ L.map (·.k) → Q (.there none) s)
    (no : ∀ K, k ∉ L.map (·.k) → way t.mask (thash P w k) K ∉ L.map (·.j) → (∀ c, c < K → way t.mask (thash P w k) c ∈ L.map (·.j)) → Q (.free (way t.mask (thash P w k) K) false) s) :
    wpAny (model P w) A (setSearch a (.ref x) (thash P w k) true) Q E s := by
  have rm := R.room
  obtain ⟨K, k1, k2, k3⟩ := R.tb.first (by omega) (thash P w k)
  have tt : 10 * SetTable.turns t.mask ≤ 6000 := by
    have := R.tb.msk.top
    unfold SetTable.turns
    omega
  unfold setSearch
  refine look_from R hx hu k1 k2 k3 yes (fun hn => no K hn k2 k3) 100000 0 none rfl (Nat.zero_le _) (by omega) fun e he hk => ?_
  subst hk
  obtain ⟨c, c1, c2⟩ := R.tb.before he k2
  exact ⟨c, Nat.zero_le _, c1, c2.symm⟩
theorem isT_but {h h' : Heap} {k : List Int} {b : Addr} {o : Obj} (hb : IsT P w h k b) (g1 : h.get? a = some o) (g3 : o.data = .set es ep t) (sb : Heap.SameBut a h h') : IsT P w h' k b := isT_same hb g1 g3 sb
theorem es_live (hr : es.toList = L.map (rowE P w)) : ∀ live : List (Nat × Nat), (∀ q ∈ live, q.2 < L.length) → (live.map (·.2)).filterMap (fun i => es[i]?) = (live.map fun q => ({ L.getD q.2 noE with j := q.1 } : Ent)).map (rowE P w)
  | [], _ => rfl
  | q :: live, hl => by
    have h1 := hl q List.mem_cons_self
    have h2 : L[q.2]? = some (L.getD q.2 noE) := by rw [List.getD_eq_getElem?_getD, List.getElem?_eq_getElem h1]; rfl
    rw [List.map_cons, List.filterMap_cons_some (row_at hr h2), es_live hr live fun q hq => hl q (List.mem_cons_of_mem _ hq)]
    rfl
theorem range_back (L : List Ent) : (List.range L.length).map (fun i => L.getD i noE) = L := by
  apply List.ext_getElem
  · simp
  · intro i h1 h2
    simp at h1
    simp [List.getD_eq_getElem?_getD, h2]
/-- laid anew, larger -/
theorem grow_set {o : Obj} (g1 : s.heap.get? a = some o) (g2 : o.ExactSet) (g3 : o.data = .set es ep t) (hr : es.toList = L.map (rowE P w)) (T : Tb P w t L) (hm : L.length ≤ t.mask)
    (nd : (L.map (·.k)).Nodup) (tup : ∀ e ∈ L, IsT P w s.heap e.k e.a) (pl : t.plain = true) (ld : w.params.followText "set-order" = true ∨ t.led = true) {want M : Nat}
    (hw : SetTable.sizeAbove want - 1 = M) (hM : Mk M) (hn : L.length * 5 < M * 3) {Q : Unit → Shared → Prop}
    (hQ : ∀ h' L' es' ep' t', Heap.SameBut a s.heap h' → SR P w h' a L' es' ep' t' → (L'.map aK).Perm (L.map aK) → Q () { s with heap := h' }) : wpAny (model P w) A (setRelay a want) Q E s := by
  have hz : es.size = L.length := by rw [← Array.length_toList, hr, List.length_map]
  have top := hM.top
  obtain ⟨t', live, e, pm, T', em, el, ep'⟩ := tb_lay (P := P) (w := w) t L (es.map (·.1)) (by rw [Array.toList_map, hr, List.map_map]; rfl) hw hM (by omega)
  have hl : ∀ q ∈ live, q.2 < L.length := fun q hq => List.mem_range.mp (pm.mem_iff.mp (List.mem_map.mpr ⟨q, hq, rfl⟩))
  have hrow := es_live hr live hl
  have pk : ((live.map fun q => ({ L.getD q.2 noE with j := q.1 } : Ent)).map aK).Perm (L.map aK) := by
    have h1 : ((live.map fun q => ({ L.getD q.2 noE with j := q.1 } : Ent)).map aK) = (live.map (·.2)).map fun i => aK (L.getD i noE) := by
      rw [List.map_map, List.map_map]
      rfl
    have h2 := pm.map fun i => aK (L.getD i noE)
    have h3 : (List.range L.length).map (fun i => aK (L.getD i noE)) = L.map aK := by
      have := congrArg (List.map aK) (range_back L)
      rw [List.map_map] at this
      exact this
    rw [h1]
    rw [h3] at h2
    exact h2
  generalize (live.map fun q => ({ L.getD q.2 noE with j := q.1 } : Ent)) = L' at *
  have hlen : L'.length = L.length := by
    have := pk.length_eq
    rw [List.length_map, List.length_map] at this
    exact this
  have hel : ((live.map (·.2)).toArray.filterMap (es[·]?)).toList = L'.map (rowE P w) := by
    rw [← hrow]
    simp
  have hz2 : ((live.map (·.2)).toArray.filterMap (es[·]?)).size = es.size := by rw [← Array.length_toList, hel, List.length_map, hlen, hz]
  rw [setRelay_eq]
  refine wpAny_bind (wpAny_setState_of g1 g3 (fits_of (by rw [hz, T.size]) T.dm (by rw [hz]; exact hm)) ?_)
  dsimp only
  refine wp_if_neg (by rw [sizeLine_eq]; omega) ?_
  try refine wpAny_bind (wpAny_pure ?_)
  rw [e]
  dsimp only
  refine wpAny_bind ?_
  refine wp_if_neg (by rw [hz2]; simp) ?_
  try refine wpAny_bind (wpAny_pure ?_)
  refine wpAny_pure ?_
  dsimp only
  generalize hes : (live.map (·.2)).toArray.filterMap (es[·]?) = es2 at *
  refine wpAny_storeSet_of g1 g3 ?_ (by rw [hz2, hz, sizeLine_eq]; omega)
  have sb : Heap.SameBut a s.heap (s.heap.update a (Obj.putSet es2 t')) := Heap.SameBut.update ..
  have kin : ∀ {e' : Ent}, e' ∈ L' → ∃ e0 ∈ L, e0.a = e'.a ∧ e0.k = e'.k := fun he' => by
    obtain ⟨e0, m0, q0⟩ := List.mem_map.mp (pk.mem_iff.mp (List.mem_map.mpr ⟨_, he', rfl⟩))
    exact ⟨e0, m0, congrArg Prod.fst q0, congrArg Prod.snd q0⟩
  refine hQ _ L' es2 (ep + 1) t' sb ⟨⟨_, store_at g1 g3, ⟨g2.1, g2.2.1, g2.2.2⟩, rfl⟩, hel, T', ?_, fun e' he' => ?_, ep'.trans pl, by rw [el]; exact ld, by rw [hlen, em]; exact hn⟩ pk
  · have p2 := pk.map Prod.snd
    rw [List.map_map, List.map_map] at p2
    exact p2.nodup_iff.mpr nd
  · obtain ⟨e0, m0, q1, q2⟩ := kin he'
    rw [← q1, ← q2]
    exact isT_but (tup e0 m0) g1 g3 sb
theorem sz77 : SetTable.sizeAbove (SetTable.grown 77) = 512 := by decide +kernel
/-- one put in -/
theorem put_in (R : SR P w s.heap a L es ep t) {x : Addr} {k : List Int} (hx : IsT P w s.heap k x) (hu : A.units < cLine) (few : L.length < 200) {Q : Bool → Shared → Prop}
    (hQ : ∀ b h' L' es' ep' t', Heap.SameBut a s.heap h' → SR P w h' a L' es' ep' t' → (k ∈ L.map (·.k) → L' = L) → (k ∉ L.map (·.k) → (L'.map aK).Perm ((x, k) :: L.map aK)) → Q b { s with heap := h' }) :
    wpAny (model P w) A (setAddHashed a (.ref x) (thash P w k)) Q E s := by
  obtain ⟨o, g1, g2, g3⟩ := R.ob
  have rm := R.room
  have hz := R.len
  unfold setAddHashed
  refine wpAny_holding ?_
  rw [show (100000 : Nat) = 99999 + 1 from rfl, setAddHashedIn_succ]
  refine wpAny_bind (wpAny_setState_of g1 g3 R.fits ?_)
  dsimp only
  refine wp_if_neg (by simp [byScan, Value.scannable]) ?_
  try refine wpAny_bind (wpAny_pure ?_)
  refine wpAny_bind (look R hx hu (fun hm => ?_) fun K hm hK hb => ?_)
  · exact wpAny_pure (hQ false s.heap L es ep t (Heap.SameBut.refl a s.heap) R (fun _ => rfl) fun z => absurd hm z)
  · dsimp only
    refine wpAny_bind (wpAny_setState_of g1 g3 R.fits ?_)
    dsimp only
    obtain ⟨p, hp, hpl, T1⟩ := R.tb.add x k hK hb
    generalize hj : way t.mask (thash P w k) K = j at *
    have pl1 : (t.put j).1.plain = true := R.plain
    have ld1 : w.params.followText "set-order" = true ∨ (t.put j).1.led = true := R.led
    have mk1 : (t.put j).1.mask = t.mask := rfl
    have pp : (t.put j).2 = p := hp.symm
    generalize hpt : t.put j = pt at *
    obtain ⟨t1, p'⟩ := pt
    dsimp only at T1 pl1 ld1 mk1 pp ⊢
    subst pp
    first
      | (refine wpAny_bind ?_; refine wp_if_pos pl1 ?_; refine hashBy_tup hx ?_)
      | refine wp_if_pos pl1 (wpAny_bind (hashBy_tup hx ?_))
    simp only [if_true]
    have hr1 : (SetTable.insertAt es p' (thash P w k, Value.ref x)).toList = (L.take p' ++ (⟨x, k, j⟩ : Ent) :: L.drop p').map (rowE P w) := by
      rw [SetTable.toList_insertAt, R.rows, List.map_append, List.map_cons, List.map_take, List.map_drop]
    have pm := (put_perm L p' (⟨x, k, j⟩ : Ent)).map aK
    rw [List.map_cons] at pm
    have hmem : ∀ {e : Ent}, e ∈ L.take p' ++ (⟨x, k, j⟩ : Ent) :: L.drop p' → e = ⟨x, k, j⟩ ∨ e ∈ L := fun h => mem_ins.mp h
    generalize L.take p' ++ (⟨x, k, j⟩ : Ent) :: L.drop p' = L1 at *
    have hlen : L1.length = L.length + 1 := by
      have := pm.length_eq
      rw [List.length_map, List.length_cons, List.length_map] at this
      exact this
    have hz1 : (SetTable.insertAt es p' (thash P w k, Value.ref x)).size = L1.length := by rw [← Array.length_toList, hr1, List.length_map]
    generalize SetTable.insertAt es p' (thash P w k, Value.ref x) = es1 at *
    have nd1 : (L1.map (·.k)).Nodup := by
      have p2 := pm.map Prod.snd
      rw [List.map_map, List.map_cons, List.map_map] at p2
      exact p2.nodup_iff.mpr (List.nodup_cons.mpr ⟨hm, R.nd⟩)
    refine wpAny_bind (wpAny_storeSet_of g1 g3 ?_ (by rw [hz1, hlen, sizeLine_eq]; omega))
    have sb : Heap.SameBut a s.heap (s.heap.update a (Obj.putSet es1 t1)) := Heap.SameBut.update ..
    have at1 := store_at (es' := es1) (t' := t1) g1 g3
    generalize s.heap.update a (Obj.putSet es1 t1) = h1 at *
    have tup1 : ∀ e ∈ L1, IsT P w h1 e.k e.a := fun e he => by
      rcases hmem he with z | z
      · subst z
        exact isT_but hx g1 g3 sb
      · exact isT_but (R.tup e z) g1 g3 sb
    have fl : t1.tooFull = decide ((L.length + 1) * 5 ≥ t.mask * 3) := by
      unfold SetTable.tooFull SetTable.fill
      rw [T1.size, T1.dm, hlen, mk1]
      rfl
    by_cases hf : (L.length + 1) * 5 ≥ t.mask * 3
    · have hf' : t1.tooFull = true := by rw [fl]; exact decide_eq_true hf
      first
        | (refine wpAny_bind ?_; refine wp_if_pos (by simp [hf']) ?_)
        | (refine wp_if_pos (by simp [hf']) ?_; refine wpAny_bind ?_)
      have go : ∀ M, SetTable.sizeAbove (SetTable.grown (es.size + 1)) - 1 = M → Mk M → (L.length + 1) * 5 < M * 3 → wpAny (model P w) A (setRelay a (SetTable.grown (es.size + 1))) (fun _ s' => wpAny (model P w) A (pure true) Q E s') E { s with heap := h1 } := fun M w1 w2 w3 => by
        refine grow_set (s := { s with heap := h1 }) (L := L1) at1 ⟨g2.1, g2.2.1, g2.2.2⟩ rfl hr1 T1 (by have := R.tb.msk; unfold Mk MaskOk at this; rw [hlen, mk1]; omega) nd1 tup1 pl1 ld1 w1 w2 (by rw [hlen]; exact w3) ?_
        intro h2 L2 es2 ep2 t2 sb2 R2 pm2
        exact wpAny_pure (hQ true h2 L2 es2 ep2 t2 (sb.trans sb2) R2 (fun z => absurd z hm) fun _ => pm2.trans pm)
      rcases R.tb.msk with (e | e | e) | e
      · have e2 : L.length = 4 := by omega
        exact go 31 (by rw [hz, e2, size_20]) (.inl (.inr (.inl rfl))) (by omega)
      · have e2 : L.length = 18 := by omega
        exact go 127 (by rw [hz, e2, size_76]) (.inl (.inr (.inr rfl))) (by omega)
      · have e2 : L.length = 76 := by omega
        exact go 511 (by rw [hz, e2, sz77]) (.inr rfl) (by omega)
      · omega
    · have hf' : t1.tooFull = false := by rw [fl]; exact decide_eq_false hf
      first
        | refine wp_if_neg (by simp [hf']) ?_
        | (refine wpAny_bind ?_; refine wp_if_neg (by simp [hf']) ?_; refine wpAny_pure ?_)
      exact wpAny_pure (hQ true h1 L1 es1 (ep + 1) t1 sb ⟨⟨_, at1, ⟨g2.1, g2.2.1, g2.2.2⟩, rfl⟩, hr1, T1, nd1, tup1, pl1, ld1, by rw [hlen, mk1]; omega⟩ (fun z => absurd z hm) fun _ => pm)
end
end K02
set_option Elab.async false
set_option linter.all false
set_option maxRecDepth 100000
set_option maxHeartbeats 3200000
/-! ### set(list of tuples of ints) -/
namespace K02
open PySem PySem.Spec PyProof.Rows L2 Evl
abbrev set0 (w : World) : Obj := { cls := .type "set", dict := none, data := .set #[] 0 (.fresh 0 0 (!w.params.followText "set-order")) }
section
variable {P : Program} {w : World} {A : Around} {E : Value → Shared → Prop} {s : Shared}
theorem SR.on {h h' : Heap} {a : Addr} {L : List Ent} {es : Array (Int × Value)} {ep : Nat} {t : SetTable} (R : SR P w h a L es ep t) (ha : ∀ o, h.get? a = some o → h'.get? a = some o) (ht : ∀ e ∈ L, IsT P w h' e.k e.a) : SR P w h' a L es ep t := by
  obtain ⟨o, g1, g⟩ := R.ob
  exact ⟨⟨o, ha o g1, g⟩, R.rows, R.tb, R.nd, ht, R.plain, R.led, R.room⟩
theorem sr_new {h : Heap} {a : Addr} (ho : h.get? a = some (set0 w)) : SR P w h a [] #[] 0 (.fresh 0 0 (!w.params.followText "set-order")) := by
  refine ⟨⟨_, ho, ⟨rfl, rfl, rfl⟩, rfl⟩, rfl, ⟨rfl, List.Pairwise.nil, rfl, .inl (.inl rfl), (fun e h => by cases h), (fun e h => by cases h)⟩, List.nodup_nil, (fun e h => by cases h), rfl, ?_, (by show 0 * 5 < 7 * 3; decide)⟩
  show _ ∨ (!w.params.followText "set-order") = true
  cases w.params.followText "set-order" <;> simp
theorem fill_loop {I : Addr} {fp wr : List Addr} {G : Array GenState → Array GenState → Prop} {n : Nat} {Pv : Nat → Value → Prop} {St : Nat → Shared → Prop} {Z : Result → Shared → Prop}
    (W : WalksS P w A.in1 I fp wr G n Pv St) {S : Addr} (nf : S ∉ fp) {ks : List (Addr × List Int)} (hn : ks.length = n) {U : List (List Int)} (hU : U.length ≤ 150) (kU : ∀ p ∈ ks, p.2 ∈ U)
    (hv : ∀ i v, Pv i v → ∃ p, ks[i]? = some p ∧ v = .ref p.1) {h0 : Heap} (kt : ∀ p ∈ ks, IsT P w h0 p.2 p.1) (nS : h0.get? S = none) (nw : ∀ b ∈ wr, h0.get? b = none) (hu : A.in1.units < cLine) :
    ∀ (m i : Nat) (s : Shared), i + m = n → St i s → (∀ b o, h0.get? b = some o → s.heap.get? b = some o) → (∃ L es ep t, SR P w s.heap S L es ep t ∧ Got ks i (L.map aK)) →
      (∀ s' L es ep t, Moved (S :: wr) G s s' → SR P w s'.heap S L es ep t → Got ks n (L.map aK) → (∀ b o, h0.get? b = some o → s'.heap.get? b = some o) → Z (.ok (.ret .none)) s') →
      codeAny (model P w) A (.builtin "set.update.loop" ⟨[.ref S, .ref I], []⟩) Z s := by
  have nfw : S ∉ wr := fun z => nf (W.sub _ z)
  have wrS : ∀ b ∈ wr, b ∈ S :: wr := fun b hb => List.mem_cons_of_mem _ hb
  have old : ∀ {s s' : Shared}, Moved wr G s s' → (∀ b o, h0.get? b = some o → s.heap.get? b = some o) → ∀ b o, h0.get? b = some o → s'.heap.get? b = some o := fun mv ko b o e => mv.heap b o (fun hb => nomatch (nw b hb).symm.trans e) (ko b o e)
  have inks : ∀ {i : Nat} {L : List Ent}, Got ks i (L.map aK) → ∀ e ∈ L, aK e ∈ ks := fun g e he => List.mem_of_mem_take (g.sub _ (List.mem_map.mpr ⟨e, he, rfl⟩))
  intro m
  induction m with
  | zero =>
    intro i s hi hst ko ⟨L, es, ep, t, R, g⟩ fin
    have e0 : i = n := by omega
    subst e0
    refine codeAny_builtin F.entry_set_update_loop ?_
    rw [Around.under_plainId F.plain_set_update_loop _]
    refine wpAny_bind (W.done s _ _ hst fun s1 mv => ?_)
    have k1 := old mv ko
    exact wpAny_pure (fin s1 L es ep t (mv.mono wrS) (R.on (fun o e => mv.heap S o nfw e) fun e he => isT_keep (kt _ (inks g e he)) k1) g k1)
  | succ m ih =>
    intro i s hi hst ko ⟨L, es, ep, t, R, g⟩ fin
    refine codeAny_builtin F.entry_set_update_loop ?_
    rw [Around.under_plainId F.plain_set_update_loop _]
    refine wpAny_bind (W.item i s _ _ (by omega) hst fun v s1 hP hst1 mv => ?_)
    obtain ⟨p, hp, rfl⟩ := hv i v hP
    have pin := List.mem_of_getElem? hp
    have k1 := old mv ko
    have R1 : SR P w s1.heap S L es ep t := R.on (fun o e => mv.heap S o nfw e) fun e he => isT_keep (kt _ (inks g e he)) k1
    have hx : IsT P w s1.heap p.2 p.1 := isT_keep (kt p pin) k1
    have few : L.length < 200 := by
      have := nodup_le R.nd (m := U) fun k hk => by
        obtain ⟨e, he, rfl⟩ := List.mem_map.mp hk
        exact kU _ (inks g e he)
      rw [List.length_map] at this
      omega
    show wpAny _ A.in1 (holding [Value.ref p.1] (setAdd S (.ref p.1)) >>= _) _ _ s1
    refine wpAny_bind (wpAny_holding ?_)
    unfold setAdd
    refine wpAny_holding (wpAny_bind (wpAny_pyHash_tuple hu hx ?_))
    refine put_in (s := { s1 with toks := s1.toks + (p.2.length + 1) }) R1 hx hu few fun b h2 L2 es2 ep2 t2 sb R2 c1 c2 => ?_
    have g2 : Got ks (i + 1) (L2.map aK) := by
      have kk : L.map (·.k) = (L.map aK).map (·.2) := by rw [List.map_map]; rfl
      rw [kk] at c1 c2
      by_cases c : p.2 ∈ (L.map aK).map (·.2)
      · rw [c1 c]
        exact g.same hp c
      · exact g.more hp (c2 c)
    have k2 : ∀ b o, h0.get? b = some o → h2.get? b = some o := fun b o e => (sb.2 b (fun z => nomatch (z ▸ nS).symm.trans e)).trans (k1 b o e)
    refine wpAny_pure ⟨plainId_quiet F.plain_set_update_loop _, ih (i + 1) _ (by omega) (W.frame _ s1 _ _ hst1 (Nat.le_add_right _ _) fun b hb o e => ?_) k2 ⟨L2, es2, ep2, t2, R2, g2⟩ fun s3 L3 es3 ep3 t3 mv3 R3 g3 k3 => ?_⟩
    · exact (sb.2 b (fun z : b = S => nf (z ▸ hb))).trans e
    · refine fin s3 L3 es3 ep3 t3 (Moved.trans W.gtrans ((mv.mono wrS).then_heap (Nat.le_add_right _ _) fun b o hb e => ?_) mv3) R3 g3 k3
      exact (sb.2 b (fun z : b = S => hb (z ▸ List.mem_cons_self))).trans e
/-- set(xs) -/
theorem call_setX {l : Addr} {items : Array Value} (ks : List (Addr × List Int)) {U : List (List Int)} (hU : U.length ≤ 150) (kU : ∀ p ∈ ks, p.2 ∈ U) {Q : Value → Shared → Prop} (hh : A.handled = none) (hl : s.heap.IsList l items) (hit : items.toList = ks.map fun p => Value.ref p.1)
    (kt : ∀ p ∈ ks, IsT P w s.heap p.2 p.1) (hu : A.units + 3 < cLine)
    (fin : ∀ (h' : Heap) (tk : Nat) L es ep t, SR P w h' s.heap.objs.size L es ep t → Got ks ks.length (L.map aK) → (∀ b o, s.heap.get? b = some o → h'.get? b = some o) → Q (.ref s.heap.objs.size) { s with heap := h', toks := tk }) :
    wpAny (model P w) A (call (.type "set") [.ref l]) Q E s := by
  have hz : ks.length = items.size := by rw [← Array.length_toList, hit, List.length_map]
  obtain ⟨c, tl, hmro⟩ := F.called_set.mro
  have hmade := F.called_set.made
  have hsub := F.called_set.sub
  refine wpAny_call (codeAny_of_tree ?_)
  show wpAny _ _ (callAny (.type "set") _) _ _ _
  refine wpAny_pure ⟨Code.quiet_builtin _ (by decide +kernel), codeAny_builtin F.entry_type_call ?_⟩
  rw [Around.under_plain (weight_type_call_type "set" [.ref l] []) rfl]
  have h1 := F.called_set.notType
  have h2 := F.called_set.canCreate
  have hct := F.typeCall_set_1 (.ref l)
  repeat (any_goals (first | assumption | wp_step))
  refine codeAny_mono (code_set_led1 (.ref l) (E := E) (Q₁ := fun ob s1 => ob = .ref s.heap.objs.size ∧ s1 = { s with heap := s.heap.push (set0 w) }) ⟨rfl, rfl⟩) fun r s1 hr => ?_
  cases r with
  | error e => exact hr
  | ok fl =>
    cases fl with
    | ret ob =>
      obtain ⟨rfl, rfl⟩ := hr
      have at0 : (s.heap.push (set0 w)).get? s.heap.objs.size = some (set0 w) := Heap.get?_push_size _ rfl
      have ty0 : Shared.TypeIs { s with heap := s.heap.push (set0 w) } (.ref s.heap.objs.size) "set" := ⟨_, at0, rfl⟩
      have hli := F.called_set.init.lookup
      have hbi := F.called_set.init.bind (.ref s.heap.objs.size)
      repeat (any_goals (first | assumption | wp_step))
      refine codeAny_mono (codeAny_call_builtin (R := wants (fun r s2 => r = .none ∧ ∃ h' tk L es ep t, s2 = { s with heap := h', toks := tk } ∧ SR P w h' s.heap.objs.size L es ep t ∧ Got ks ks.length (L.map aK) ∧
          (∀ b o, s.heap.get? b = some o → h'.get? b = some o)) E) F.called_set.init.plain F.entry_set_init (check_set_init_1 ty0 ?_)) fun r2 s2 hr2 => ?_
      · obtain ⟨⟨ocl, odi, oda, osl⟩, hol, hcl, nl, hdl⟩ := hl
        simp only at hcl hdl
        subst hcl
        subst hdl
        have hol' : (s.heap.push (set0 w)).get? l = some { cls := .type "list", dict := odi, data := .seq items nl, slots := osl } := Heap.get?_push_of_some _ hol
        have hsls := F.sub_list_set
        have hslf := F.sub_list_frozenset
        have hne : (Value.type "list" == Value.type "dict") = false := by decide
        have hl1 : (s.heap.push (set0 w)).IsList l items := ⟨_, hol', rfl, nl, rfl⟩
        unfold Builtin.«set.__init__» noKeywords Builtin.Frozenset.updateFrom
        generalize hPI : pyIter = PI
        wp_walk
        subst hPI
        refine wpAny_pyIter_list hl1 ?_
        refine wpAny_bind (wpAny_runValue ?_)
        have lt := Heap.lt_size hol
        have hh3 : A.in1.in1.in1.handled = none := by simp [hh]
        have zI : (s.heap.push (set0 w)).objs.size = s.heap.objs.size + 1 := Heap.size_push ..
        have hneI : l ≠ (s.heap.push (set0 w)).objs.size := by rw [zI]; exact Nat.ne_of_lt (Nat.lt_succ_of_lt lt)
        have nf : s.heap.objs.size ∉ [(s.heap.push (set0 w)).objs.size, l] := by
          rw [zI]
          intro z
          rcases List.mem_cons.mp z with z | z
          · exact absurd z (Nat.ne_of_lt (Nat.lt_succ_self _))
          · exact absurd (List.mem_singleton.mp z) (Nat.ne_of_gt lt)
        have hv : ∀ (i : Nat) (v : Value), items[i]? = some v → ∃ p, ks[i]? = some p ∧ v = .ref p.1 := fun i v e => by
          rw [← Array.getElem?_toList, hit, List.getElem?_map] at e
          cases g : ks[i]? with
          | none => rw [g] at e; cases e
          | some p => rw [g] at e; exact ⟨p, rfl, (Option.some.inj e).symm⟩
        have new : ∀ b, s.heap.objs.size ≤ b → s.heap.get? b = none := fun b hb => by
          cases q : s.heap.get? b with
          | none => rfl
          | some o => exact absurd (Nat.lt_of_lt_of_le (Heap.lt_size q) hb) (Nat.lt_irrefl _)
        refine fill_loop ((Walks.list hh3 _ l hneI items).toS) nf hz hU kU hv (h0 := s.heap) kt (new _ (Nat.le_refl _)) (fun b hb => new b (by rw [List.mem_singleton.mp hb, zI]; exact Nat.le_succ _)) hu items.size 0 _ (by omega)
          ⟨⟨_, Heap.get?_push_size _ rfl, rfl, rfl⟩, (hl1.push _)⟩ (fun b o e => Heap.get?_push_of_some _ (Heap.get?_push_of_some _ e)) ?start ?fin
        case start => exact ⟨[], #[], 0, _, sr_new (Heap.get?_push_of_some _ at0), Got.zero ks⟩
        case fin =>
          intro s3 L es ep t mv R g k3
          obtain ⟨h', g', d', tk', os'⟩ := s3
          have e1 : g' = s.gens := mv.gens
          have e2 : d' = s.drawn := mv.drawn
          have e3 : os' = s.os := mv.os
          subst e1 e2 e3
          refine wpAny_pure ?_
          show wpAny _ _ (ret Value.none) _ _ _
          rw [← hz] at g
          exact wpAny_pure ⟨rfl, h', tk', L, es, ep, t, rfl, R, g, k3⟩
      · cases r2 with
        | error e => exact hr2
        | ok fl2 =>
          cases fl2 with
          | ret r =>
            obtain ⟨rfl, h', tk, L, es, ep, t, rfl, R, g, k3⟩ := hr2
            repeat (any_goals (first | assumption | wp_step))
            exact fin _ _ _ _ _ _ R g k3
          | _ => exact hr2.elim
    | _ => exact hr.elim
end
end K02
set_option Elab.async false
set_option linter.all false
set_option maxRecDepth 100000
set_option maxHeartbeats 1000000
/-! ### set(xs), sorted(set): the rules -/
namespace K02
open PySem PySem.Spec PyProof.Rows L2 Evl
theorem map_pre {α β : Type} (f : α → β) : ∀ {out m : List β}, out.Perm m → ∀ L : List α, m = L.map f → ∃ el : List α, el.Perm L ∧ out = el.map f := by
  intro out m h
  induction h with
  | nil => exact fun L e => ⟨L, .refl _, e⟩
  | @cons x l1 l2 _ ih =>
    intro L e
    cases L with
    | nil => cases e
    | cons y L =>
      injection e with e1 e2
      obtain ⟨el, p, q⟩ := ih L e2
      exact ⟨y :: el, p.cons y, by rw [e1, q]; rfl⟩
  | @swap x y l =>
    intro L e
    match L, e with
    | [], e => cases e
    | [_], e => cases e
    | a :: b :: L, e =>
      injection e with e1 e2
      injection e2 with e2 e3
      exact ⟨b :: a :: L, .swap _ _ _, by rw [e1, e2, e3]; rfl⟩
  | @trans l1 l2 l3 _ _ ih1 ih2 =>
    intro L e
    obtain ⟨e2, p2, q2⟩ := ih2 L e
    obtain ⟨e1, p1, q1⟩ := ih1 e2 q2
    exact ⟨e1, p1.trans p2, q1⟩
/-- the set at a, its tuples apart -/
def SetX0 (P : Program) (w : World) (a : Addr) (kl : List (Addr × Vec)) (h : Heap) : Prop := ∃ L es ep t, L.map aK = kl ∧ (∃ o, h.get? a = some o ∧ o.ExactSet ∧ o.data = .set es ep t) ∧ es.toList = L.map (rowE P w) ∧ Tb P w t L ∧ (L.map (·.k)).Nodup ∧ t.plain = true ∧
  (w.params.followText "set-order" = true ∨ t.led = true) ∧ L.length * 5 < t.mask * 3
def SetX (P : Program) (w : World) (a : Addr) (kl : List (Addr × Vec)) : HO := .ext (SetX0 P w a kl)
theorem setX_ok {P : Program} {w : World} {H : Hp} {h : Heap} {a : Addr} {kl : List (Addr × Vec)} (R : SetX0 P w a kl h) : ObjOk P w H h a (SetX P w a kl) := by
  obtain ⟨L, es, ep, t, e, ⟨o, ho, r⟩, q⟩ := id R
  exact ⟨R, ⟨o, ho⟩, fun h1 h2 ⟨L, es, ep, t, e, ⟨o, ho, r⟩, q⟩ k => ⟨L, es, ep, t, e, ⟨o, k o ho, r⟩, q⟩⟩
theorem vals_ref {K : PySem.W.Frag} {H : Hp} : ∀ {xs : List V} {ks : List Vec}, DpAll K H xs (ks.map dV) → ∃ ps : List (Addr × Vec), xs = ps.map (fun p => V.ref p.1) ∧ ps.map (·.2) = ks ∧ ∀ p ∈ ps, SqT K H p.1 (p.2.map V.int)
  | _, [], h => by
    cases h
    exact ⟨[], rfl, rfl, fun p hp => by cases hp⟩
  | _, k :: ks, h => by
    have h' : DpAll K H _ (dV k :: ks.map dV) := h
    cases h' with
    | cons h1 h2 =>
      obtain ⟨b, zs, rfl, hz, hzs⟩ := dp_tup h1
      rw [dps_ints_eq hzs] at hz
      obtain ⟨ps, e1, e2, e3⟩ := vals_ref h2
      refine ⟨(b, k) :: ps, by rw [e1]; rfl, by rw [← e2]; rfl, fun p hp => ?_⟩
      rcases List.mem_cons.mp hp with z | z
      · subst z
        exact hz
      · exact e3 p z
def rSetX (K : PySem.W.Frag) (P : Program) (w : World) : List V → Hp → VK → Prop := fun xs H Q => ∃ (Hs : Hp) (l : Addr) (ks U : List Vec), xs = [V.ref l] ∧ Ex Hs H ∧ Dp K Hs (.ref l) (.list (ks.map dV)) ∧ U.length ≤ 150 ∧ (∀ k ∈ ks, k ∈ U) ∧
  ∀ a (kl : List (Addr × Vec)), H a = none → (kl.map (·.2)).Nodup → (∀ v, v ∈ kl.map (·.2) ↔ v ∈ ks) → (∀ p ∈ kl, SqT K Hs p.1 (p.2.map V.int)) → Q (.ref a) (upd H a (SetX P w a kl))
section
variable {X : Cx} {σ : L2.St} {te : TE}
theorem cr_setX (hc : X.calm = true) (hu : X.A.units + 64 < cLine) : CallR X (.type "set") (rSetX X.K X.prog X.w) := by
  intro pins s σ H xs us Q I r h
  obtain ⟨Hs, l, ks, U, rfl, eH, hd, hU, kU, q⟩ := h
  rw [Vals.ref1 r]
  obtain ⟨l', zs, e0, hl, hz⟩ := dp_lst hd
  cases e0
  obtain ⟨ps, rfl, rfl, hp⟩ := vals_ref hz
  obtain ⟨its, rv, pl, _⟩ := I.list (ex_l eH hl)
  refine call_setX (P := X.prog) (w := X.w) ps hU (fun p hp => kU _ (List.mem_map.mpr ⟨p, hp, rfl⟩)) (I.ok.hd hc) pl.isList (by simpa using refs_of_vals rv) (fun p h => I.isT (ex_t eH (hp p h))) (by omega) fun h' tk L es ep t R g k => ?_
  have hx : SetX0 X.prog X.w s.heap.objs.size (L.map aK) h' := ⟨L, es, ep, t, rfl, R.ob, R.rows, R.tb, R.nd, R.plain, R.led, R.room⟩
  have ins : ∀ p ∈ L.map aK, p ∈ ps := fun p h => List.mem_of_mem_take (g.sub p h)
  have kk : (L.map aK).map (·.2) = L.map (·.k) := by rw [List.map_map]; rfl
  refine ⟨.ref s.heap.objs.size, upd H s.heap.objs.size (SetX X.prog X.w s.heap.objs.size (L.map aK)), I.laid (t' := tk) k (Nat.le_refl _) (setX_ok hx), rfl, q _ (L.map aK) (I.hok.fresh (Nat.le_refl _)) (by rw [kk]; exact R.nd) (fun v => ⟨fun hv => ?_, fun hv => ?_⟩) fun p h => hp p (ins p h)⟩
  · obtain ⟨p, h, rfl⟩ := List.mem_map.mp hv
    exact List.mem_map.mpr ⟨p, ins p h, rfl⟩
  · obtain ⟨p, h, rfl⟩ := List.mem_map.mp hv
    exact g.all p (by rw [List.take_length]; exact h)
def rSortX (K : PySem.W.Frag) (P : Program) (w : World) : List V → Hp → VK → Prop := fun vs H Q => ∃ (Hs : Hp) (a : Addr) (kl : List (Addr × Vec)) (n : Nat), vs = [.ref a] ∧ H a = some (SetX P w a kl) ∧ Ex Hs H ∧ (∀ p ∈ kl, SqT K Hs p.1 (p.2.map V.int)) ∧ kl.length ≤ 1000 ∧ (∀ p ∈ kl, p.2.length = n) ∧ (n = 0 → kl.length ≤ 1) ∧
  ∀ ys p (pl : List Vec), H p = none → pl.Perm (kl.map (·.2)) → DpAll K Hs ys ((pl.mergeSort vle).map dV) → Q (.ref p) (upd H p (.lst ys))
theorem dps_pairs {K : PySem.W.Frag} {H : Hp} : ∀ {kl : List (Addr × Vec)}, (∀ p ∈ kl, SqT K H p.1 (p.2.map V.int)) → DpAll K H (kl.map fun p => V.ref p.1) ((kl.map (·.2)).map dV)
  | [], _ => .nil
  | p :: kl, h => .cons (.tup (h p List.mem_cons_self) (dps_ints p.2)) (dps_pairs fun q hq => h q (List.mem_cons_of_mem _ hq))
theorem vals_pairs : ∀ kl : List (Addr × Vec), Vals (kl.map fun p => V.ref p.1) (kl.map fun p => Value.ref p.1)
  | [] => .nil
  | p :: kl => .cons rfl (vals_pairs kl)
theorem cr_sortX (hc : X.calm = true) (hu : X.A.units + 64 < cLine) : CallR X (.builtin "sorted") (rSortX X.K X.prog X.w) := by
  intro pins s σ H vs us Q I r h
  obtain ⟨Hs, a, kl, n, rfl, ha, eH, hk, hz, h1, h2, q⟩ := h
  rw [Vals.ref1 r]
  obtain ⟨⟨L, es, ep, t, rfl, ⟨o, g1, g2, g3⟩, rows, T, nd, pl, ld, rm⟩, -⟩ := (show ObjOk X.prog X.w H s.heap a (SetX X.prog X.w a kl) from I.hok a _ ha)
  rw [List.length_map] at hz
  have hes : es.size = L.length := by rw [← Array.length_toList, rows, List.length_map]
  refine Calls.call_function_entry PyProof.Rows.kind_sorted PyProof.Rows.plain_sorted PyProof.Rows.entry_sorted (PyProof.Rows.args_sorted1 _) ?_
  unfold Builtin.«sorted»
  refine wpAny_bind (m := checkCount "sorted" 1 1 _) (wpAny_pure ?_)
  refine wpAny_bind (collect_set (A := X.A.in1) (I.ok.hd hc) ⟨o, g1, g2.1, g3⟩ (fits_of (by rw [hes, T.size]) T.dm (by rw [hes]; omega)) (by unfold scanBound; omega) (by rw [T.pl]; exact T.up) ld fun s1 out k1 z1 e1 o1 pm => ?_)
  rw [rows, List.map_map] at pm
  obtain ⟨el, pe, rfl⟩ := map_pre (fun p : Addr × Vec => Value.ref p.1) pm (L.map aK) (by rw [List.map_map]; rfl)
  have I1 : L2.Inv X pins σ H s1 := I.call' (ch := []) o1 (Un.kept k1) (I.hok.kept k1) (by rw [e1]; exact I.bare) fun _ z => nomatch z
  have ellen : el.length = L.length := by
    have := pe.length_eq
    rw [List.length_map] at this
    exact this
  refine wpAny_bind (wpAny_newList ?_ (by rw [List.length_map, ellen, sizeLine_eq]; omega))
  have fr : H s1.heap.objs.size = none := I1.hok.fresh (Nat.le_refl _)
  have S : SOk (((el.map (·.2))).map dV) := sok_V (n := n) (fun b hb => by
    obtain ⟨p, hp, rfl⟩ := List.mem_map.mp hb
    exact h1 p (pe.mem_iff.mp hp)) fun e => by
      have := h2 e
      rw [List.length_map] at this ⊢
      omega
  refine wpAny_bind (wpAny_holding (wpAny_mono (sort_at (Q := fun s' => EP X pins σ Q (.ref s1.heap.objs.size) s') (s := s1) (tk := s1.toks) (l := s1.heap.objs.size) (h2 := s1.heap.push { cls := .type "list", data := .seq (el.map fun p => Value.ref p.1).toArray }) I1 eH (Heap.get?_push_size _ rfl) (fun b o e => ⟨Nat.ne_of_lt (Heap.lt_size e), Heap.get?_push_of_some _ e⟩) (Nat.le_refl _) fr
    (vals_pairs el) (dps_pairs fun p hp => hk p (pe.mem_iff.mp hp)) S (by rw [List.length_map, List.length_map, ellen, sizeLine_eq]; omega) (by show X.A.units + 1 + 16 < cLine; omega) fun ys' s' I2 hy' => ⟨.ref s1.heap.objs.size, _, I2, rfl, q ys' _ (el.map (·.2)) fr (pe.map _) (by rw [← dSort_V]; exact hy')⟩) (fun _ s' x => ?_) fun _ _ e => e))
  exact wpAny_pure ⟨_, rfl, x⟩
/-- sorted(set(xs)) -/
theorem evd_sortSet {K : PySem.W.Frag} {P : Program} {w : World} {H : Hp} {ks U : List Vec} {n : Nat} (ha : EvD K te σ H (.list (ks.map dV))) (hU : U.length ≤ 150) (kU : ∀ k ∈ ks, k ∈ U) (h1 : ∀ k ∈ ks, k.length = n) :
    EvD K (tCB (rSortX K P w) (tCons (tCB (rSetX K P w) (tCons te tNil)) tNil)) σ H (.list ((told ks).map dV)) := fun Hs H1 a b Q q =>
  ha Hs H1 a b _ fun v Hs2 H2 f p => by
    obtain ⟨l, xs, rfl, hs, ht⟩ := dp_lst p
    refine ⟨Hs2, l, ks, U, rfl, f.c, .lst hs ht, hU, kU, fun a kl ha nd hm hk => ?_⟩
    have one : OneLen n (kl.map (·.2)) := fun v hv => h1 v ((hm v).mp hv)
    have few : kl.length ≤ 150 := by
      have := nodup_le nd (m := U) fun v hv => kU v ((hm v).mp hv)
      rw [List.length_map] at this
      omega
    have f2 := f.trans (Fw.new (o := SetX P w a kl) f.c ha)
    refine ⟨upd Hs2 a (SetX P w a kl), a, kl, n, rfl, upd_same, f2.c, fun p hp => ex_t (Fw.new (o := SetX P w a kl) f.c ha).b (hk p hp), by omega, fun p hp => one _ (List.mem_map.mpr ⟨p, hp, rfl⟩), fun e => ?_, fun ys p pl hp pm hy => ?_⟩
    · have := oneLen_dd one e
      have e2 := nodup_le nd (m := dd (kl.map (·.2))) fun v hv => (dd_mem _ v).mpr hv
      rw [List.length_map] at e2
      omega
    · have e : pl.mergeSort vle = told ks := told_eq (pm.nodup_iff.mpr nd) fun x => by rw [pm.mem_iff, hm]
      rw [e] at hy
      exact q _ _ _ (f2.trans (Fw.new f2.c hp)) (.lst (sq_of upd_same) (dps_ex (Fw.new f2.c hp).b hy))
end
end K02
set_option Elab.async false
set_option linter.all false
set_option maxRecDepth 100000
set_option maxHeartbeats 2000000
/-! ### the law's _law_least -/
namespace K02
open PySem PySem.Spec PyProof.Rows L2 Evl
def rLLeast (K : PySem.W.Frag) : List V → Hp → PyData → Prop := fun vs Hs d => ∃ (x : V) (os U : List Vec) (n : Nat), vs = [x] ∧ Dp K Hs x (.list (os.map dV)) ∧ OneLen n os ∧ n ≤ 1000 ∧ U.length ≤ 150 ∧ (∀ k ∈ os, k ∈ U) ∧ d = .list ((leastOf os).map dV)
section
variable {P : Program} {w : World} {K : PySem.W.Frag} {mg : Str → Option Value} {base : Heap} {σ : L2.St} {H : Hp} {ta tb tc te : TE}
abbrev NLE : List Str := ["_law_vectors_here", "_law_told", "_law_one", "_law_other", "_law_a", "_law_b"]
theorem scLE : FnScope NLE ["_law_vectors_here"] (defScope lLeast) := ⟨rfl, rfl, rfl, by decide +kernel, rfl, by decide +kernel, by decide +kernel⟩
abbrev tLeIn (K : PySem.W.Frag) : TE := tAndV (tOp (rNeD K) (tVar 3) (tVar 2)) (tAllLe K 4 5 (tVar 3) (tVar 2))
theorem ok_lLeast (T : G K mg) : Ok P w K mg base CX0 1 (He.ga K "_law_least") ["_law_vectors_here"] (spD K (rLLeast K)) := by
  obtain ⟨fd, F⟩ := T.fun0 31
  refine ok_of F scLE (fun vs H Q E h => ?_) (fun _ _ _ _ _ _ us hl => match us, hl with | [_], _ => rfl) fun cdv A outer s H vs Q E hr h => ?_
  · obtain ⟨_, _, _, ⟨x, _, _, _, rfl, _⟩, _⟩ := h
    rfl
  · obtain ⟨Hs, d, eH, ⟨x, os, U, n, rfl, hx, h1, hn, hU, kU, rfl⟩, k⟩ := h
    refine ⟨_, pss_cons (ps_set (i := 1) scLE.nd rfl (Or.inr rfl) (pe_callB (cr_sortX rfl hr.units) rfl (T.fr "sorted") (by decide +kernel) (pa_cons (pe_callTy (cr_setX rfl hr.units) rfl (T.fr "set") (by decide +kernel) (pa_cons (pv 0) pa_nil)) pa_nil)))
      (pss_one (ps_ret (pe_lc (own := [("_law_one", 2)]) (g := gName 2) (tt := tNot (tTest (tCB (rAny K) (tCons (tLc (iList K (tVar 1)) (gName 3) tYes (tLeIn K) [3]) tNil)))) (te := tVar 2) rfl scLE.nd (pi_list (pv 1)) (blkOk_by (N := NLE) (sc := defScope lLeast) (by decide +kernel))
          (fun _ _ _ _ _ => pg_name (i := 2) scLE.nd rfl (Or.inr rfl))
          (fun _ _ _ _ _ => pts_one (pt_not (pt_val (pe_callB (cr_any rfl) rfl (T.fr "any") (by decide +kernel) (pa_cons
            (pe_lc (own := [("_law_other", 3)]) (g := gName 3) (tt := tYes) (te := tLeIn K) rfl scLE.nd (pi_list (pv 1)) (blkOk_by (by rfl))
              (fun _ _ _ _ _ => pg_name (i := 3) scLE.nd rfl (Or.inl rfl)) (fun _ _ _ _ _ => pts_nil)
              (fun _ _ _ _ _ => pe_and (pe_cmpR (op_neD hr.units) (pv 3) (pv 2) (nomark _)) (pe_one (pe_callB (cr_all rfl) rfl (T.fr "all") (by decide +kernel) (pa_cons (pe_lc (own := [("_law_a", 4), ("_law_b", 5)]) (g := g2 K 4 5) (tt := tYes) (te := tOp (rI0 fun i j => .bl (decide (i ≤ j))) (tVar 4) (tVar 5)) rfl scLE.nd
                (pi_zipM rfl (T.fr "zip") (pa_cons (pv 3) (pa_cons (pv 2) pa_nil))) (blkOk_by (by rfl))
                (fun _ _ _ _ _ => pg_tup rfl (pgs_cons (pg_name (i := 4) scLE.nd rfl (Or.inl rfl)) (pgs_cons (pg_name (i := 5) scLE.nd rfl (Or.inl rfl)) pgs_nil)))
                (fun _ _ _ _ _ => pts_nil) (fun _ _ _ _ _ => pe_cmpR op_le (pv 4) (pv 5) (nomark _))) pa_nil))))) pa_nil))))) (fun _ _ _ _ _ => pv 2)))), ?_⟩
    have few : (told os).length ≤ 150 := by
      have := nodup_le (told_nodup os) (m := U) fun v hv => kU v ((told_mem os v).mp hv)
      omega
    have lens : ∀ v ∈ told os, v.length ≤ 1000 := fun v hv => by rw [h1 v ((told_mem os v).mp hv)]; exact hn
    refine y_asg (evd_sortSet (P := P) (w := w) (U := U) (n := n) (evd_var (i := 0) (σ := start NLE [x]) (v := x) rfl hx) hU kU h1) eH fun v Hs1 H1 f1 hv => ?_
    refine y_ret (evd_lcA (K := K) (vs := [2]) (te := tVar 2) (tt := tNot (tTest (tCB (rAny K) (tCons (tLc (iList K (tVar 1)) (gName 3) tYes (tLeIn K) [3]) tNil)))) (told os) (fun v => isLeast v (told os)) dV (wk_listA (told os) dV (j := 2) (evd_var (i := 1) (v := v) rfl hv)) (by omega) fun i o σ2 H' hi e hS => ?_) f1.c fun r Hs2 H2 f2 hr => k r Hs2 H2 (f1.trans f2) hr
    obtain ⟨u, ⟨a1, e1, p1⟩, rfl⟩ := hS
    rw [hi] at e1
    cases e1
    have key := evd_lcM (K := K) (σ := [some x, some v, some u, none, none, none]) (H := H') (vs := [3]) (te := tLeIn K) (told os) (fun q => PyData.bool (decide (q ≠ o) && below q o)) (wk_listA (told os) dV (j := 3) (evd_var (i := 1) (v := v) rfl (dp_ex e hv))) (by omega) fun i q σ3 H3 hi3 e3 hS3 => by
      obtain ⟨u3, ⟨a3, e4, p3⟩, rfl⟩ := hS3
      rw [hi3] at e4
      cases e4
      have p1' := dp_ex e3 p1
      refine ⟨rfl, evd_bl (ev_andV (ev_neV (evd_var (i := 3) (v := u3) rfl p3) (evd_var (i := 2) (v := u) rfl p1')) fun _ => ?_)⟩
      exact ev_allLe (K := K) (p := true) (q := true) (evd_var (i := 3) (v := u3) rfl p3) (evd_var (i := 2) (v := u) rfl p1') (lens q (List.mem_of_getElem? hi3)) (fun _ _ => rfl) (fun _ _ => rfl) fun _ _ => rfl
    have em : (told os).map (fun q => PyData.bool (decide (q ≠ o) && below q o)) = ((told os).map fun q => decide (q ≠ o) && below q o).map PyData.bool := by rw [List.map_map]; rfl
    rw [em] at key
    have fin := et_not (et_B (ev_any key))
    have e2 : (!(((told os).map fun q => decide (q ≠ o) && below q o).any id)) = isLeast o (told os) := by
      rw [List.any_map]
      rfl
    rw [e2] at fin
    exact ⟨rfl, fin, fun _ => evd_var rfl p1⟩
end
end K02
set_option Elab.async false
set_option linter.all false
set_option maxRecDepth 100000
set_option maxHeartbeats 1000000
/-! ### the law's search, level by level -/
namespace K02
open PySem PySem.Spec PyProof.Rows L2 Evl
theorem below_rep (c : Int) : ∀ v : Vec, below v (List.replicate v.length c) = true ↔ ∀ n ∈ v, n ≤ c
  | [] => by simp [below]
  | a :: v => by
    have ih := below_rep c v
    unfold below at ih ⊢
    rw [List.length_cons, List.replicate_succ, List.zip_cons_cons, List.all_cons, Bool.and_eq_true, ih, List.forall_mem_cons]
    simp
def manyL (M : Mac) : Vec := List.replicate M.kinds.length (M.many : Int)
def inMany (M : Mac) (v : Vec) : Bool := below v (manyL M)
theorem inMany_iff {M : Mac} {v : Vec} (h : v.length = M.kinds.length) : inMany M v = true ↔ ∀ n ∈ v, n ≤ (M.many : Int) := by
  unfold inMany manyL
  rw [← h]
  exact below_rep _ v
theorem bump_pos {kinds : List Str} {v : Vec} {k : Str} (h : ∀ n ∈ v, 0 ≤ n) : ∀ n ∈ bump kinds v k, 0 ≤ n := by
  intro n hn
  unfold bump at hn
  obtain ⟨p, hp, rfl⟩ := List.mem_map.mp hn
  have := h p.2 (List.of_mem_zip hp).2
  split <;> omega
theorem rch_in {M : Mac} (O : MOk M) {s : Int} {v : Vec} (h : Rch M s v) : (∃ i : Nat, s = (i : Int) ∧ i < M.many) ∧ ∀ n ∈ v, 0 ≤ n ∧ n ≤ (M.many : Int) := by
  induction h with
  | zero => exact ⟨⟨0, rfl, O.pos⟩, fun n hn => by
      rw [(List.mem_replicate.mp hn).2]
      omega⟩
  | @step s v st h1 h2 h3 h4 ih =>
    obtain ⟨i, hi, hm⟩ := O.sst st h2
    exact ⟨O.go i st ((O.wst i hm st).mpr ⟨h2, hi⟩), fun n hn => ⟨bump_pos (fun n hn => (ih.2 n hn).1) n hn, h4 n hn⟩⟩
def allVec (M : Mac) : List Vec := vecsOf (M.many + 1) M.kinds.length
theorem allVec_len {M : Mac} (O : MOk M) : (allVec M).length ≤ 125 := by
  unfold allVec
  rw [vecsOf_len]
  have h1 := O.small
  have h2 := O.few
  calc (M.many + 1) ^ M.kinds.length ≤ 5 ^ M.kinds.length := Nat.pow_le_pow_left (by omega) _
    _ ≤ 5 ^ 3 := Nat.pow_le_pow_right (by decide) h2
    _ = 125 := by decide
theorem rch_vec {M : Mac} (O : MOk M) {s : Int} {v : Vec} (h : Rch M s v) : v ∈ allVec M :=
  vecsOf_mem (rch_len h) fun x hx => by
    have := (rch_in O h).2 x hx
    omega
def allPr (M : Mac) : List (Int × Vec) := (List.range M.many).flatMap fun i : Nat => (allVec M).map fun v => ((i : Int), v)
theorem allPr_len {M : Mac} (O : MOk M) : (allPr M).length ≤ 500 := by
  have h1 := O.small
  have h2 := allVec_len O
  have h3 : ∀ n : Nat, ((List.range n).flatMap fun i : Nat => (allVec M).map fun v => ((i : Int), v)).length = n * (allVec M).length := fun n => by
    induction n with
    | zero => simp
    | succ n ih => rw [List.range_succ, List.flatMap_append, List.length_append, ih]; simp [Nat.succ_mul]
  unfold allPr
  rw [h3]
  calc M.many * (allVec M).length ≤ 4 * 125 := Nat.mul_le_mul h1 h2
    _ = 500 := by decide
theorem rch_few {M : Mac} (O : MOk M) {F : List (Int × Vec)} (nd : F.Nodup) (h : ∀ p ∈ F, Rch M p.1 p.2) : F.length ≤ 500 :=
  Nat.le_trans (nodup_le nd fun p hp => by
    obtain ⟨⟨i, hi, him⟩, _⟩ := rch_in O (h p hp)
    refine List.mem_flatMap.mpr ⟨i, List.mem_range.mpr him, List.mem_map.mpr ⟨p.2, rch_vec O (h p hp), ?_⟩⟩
    rw [← hi]) (allPr_len O)
/-- the search between two levels -/
structure VInv (M : Mac) (F level : List (Int × Vec)) : Prop where
  nd : F.Nodup
  rch : ∀ p ∈ F, Rch M p.1 p.2
  start : (0, zeroV M.kinds) ∈ F
  sub : ∀ p ∈ level, p ∈ F
  done : ∀ p ∈ F, p ∉ level → ∀ st ∈ M.steps, st.st = p.1 → inMany M (bump M.kinds p.2 st.ki) = true → (st.go, bump M.kinds p.2 st.ki) ∈ F
theorem VInv.zero (M : Mac) : VInv M [(0, zeroV M.kinds)] [(0, zeroV M.kinds)] :=
  ⟨by simp, fun p hp => by rw [List.mem_singleton.mp hp]; exact .zero, List.mem_singleton.mpr rfl, fun _ h => h, fun p hp hn => absurd hp hn⟩
theorem VInv.fin {M : Mac} {F : List (Int × Vec)} (I : VInv M F []) (p : Int × Vec) : p ∈ F ↔ Rch M p.1 p.2 := by
  refine ⟨I.rch p, fun h => ?_⟩
  have : ∀ {s : Int} {v : Vec}, Rch M s v → (s, v) ∈ F := fun {s v} h => by
    induction h with
    | zero => exact I.start
    | @step s v st h1 h2 h3 h4 ih =>
      have l1 := bump_len (kinds := M.kinds) st.ki (rch_len h1)
      exact I.done (s, v) ih (by simp) st h2 h3 ((inMany_iff l1).mpr h4)
  exact this h
/-- .. within one -/
structure XInv (M : Mac) (F late : List (Int × Vec)) (D : (Int × Vec) → Stp → Prop) : Prop where
  nd : (F ++ late).Nodup
  rch : ∀ p ∈ F ++ late, Rch M p.1 p.2
  done : ∀ p st, D p st → inMany M (bump M.kinds p.2 st.ki) = true → (st.go, bump M.kinds p.2 st.ki) ∈ F ++ late
section
variable {M : Mac} {F level late : List (Int × Vec)} {D D' : (Int × Vec) → Stp → Prop}
theorem XInv.imp (I : XInv M F late D) (h : ∀ p st, D' p st → D p st) : XInv M F late D' := ⟨I.nd, I.rch, fun p st d => I.done p st (h p st d)⟩
theorem XInv.zero (I : VInv M F level) : XInv M F [] (fun _ _ => False) := ⟨by rw [List.append_nil]; exact I.nd, by rw [List.append_nil]; exact I.rch, fun _ _ h => h.elim⟩
theorem XInv.skip (I : XInv M F late D) {p0 : Int × Vec} {s0 : Stp} (h : inMany M (bump M.kinds p0.2 s0.ki) = true → (s0.go, bump M.kinds p0.2 s0.ki) ∈ F ++ late) : XInv M F late (fun p st => D p st ∨ (p = p0 ∧ st = s0)) :=
  ⟨I.nd, I.rch, fun p st d hi => by
    rcases d with d | ⟨rfl, rfl⟩
    · exact I.done p st d hi
    · exact h hi⟩
theorem XInv.add (I : XInv M F late D) {p0 : Int × Vec} {s0 : Stp} (hp : p0 ∈ F) (hs : s0 ∈ M.steps) (he : s0.st = p0.1) (hi : inMany M (bump M.kinds p0.2 s0.ki) = true) (hn : (s0.go, bump M.kinds p0.2 s0.ki) ∉ F ++ late) :
    XInv M F (late ++ [(s0.go, bump M.kinds p0.2 s0.ki)]) (fun p st => D p st ∨ (p = p0 ∧ st = s0)) := by
  have hr := I.rch p0 (List.mem_append_left _ hp)
  refine ⟨?_, fun p h => ?_, fun p st d hi' => ?_⟩
  · rw [← List.append_assoc, List.nodup_append]
    exact ⟨I.nd, by simp, fun x hx y hy e => hn (by rw [List.mem_singleton] at hy; rw [← hy, ← e]; exact hx)⟩
  · rw [← List.append_assoc] at h
    rcases List.mem_append.mp h with h | h
    · exact I.rch p h
    · rw [List.mem_singleton.mp h]
      exact .step hr hs he ((inMany_iff (bump_len s0.ki (rch_len hr))).mp hi)
  · rw [← List.append_assoc]
    rcases d with d | ⟨rfl, rfl⟩
    · exact List.mem_append_left _ (I.done p st d hi')
    · exact List.mem_append_right _ (List.mem_singleton.mpr rfl)
theorem XInv.fin (V : VInv M F level) (I : XInv M F late D) (h : ∀ p ∈ level, ∀ st ∈ M.steps, st.st = p.1 → D p st) : VInv M (F ++ late) late :=
  ⟨I.nd, I.rch, List.mem_append_left _ V.start, fun p hp => List.mem_append_right _ hp, fun p hp hn st hs he hi => by
    have hF : p ∈ F := (List.mem_append.mp hp).elim id fun z => absurd z hn
    by_cases c : p ∈ level
    · exact I.done p st (h p c st hs he) hi
    · exact List.mem_append_left _ (V.done p hF c st hs he hi)⟩
end
end K02
set_option Elab.async false
set_option linter.all false
set_option maxRecDepth 100000
set_option maxHeartbeats 2000000
/-! ### the law's _law_vectors -/
namespace K02
open PySem PySem.Spec PyProof.Rows L2 Evl
theorem shaped_Prs (l : List (Int × Vec)) : SeqAt.shaped (.list (l.map dPr)) = true := by
  have h1 : ∀ l : List (Int × Vec), PyData.canLayAll0 (l.map dPr) = true := fun l => by
    induction l with
    | nil => simp [PyData.canLayAll0]
    | cons a l ih =>
      have e : PyData.canLayAll0 (l.map dPr) = true := ih
      rw [List.map_cons, PyData.canLayAll0, e]
      simp [dPr, PyData.canLay0, PyData.canLayAll0, SeqAt.canLay_of_shaped (shaped_V a.2)]
  have h2 : ∀ l : List (Int × Vec), PyData.depthAll (l.map dPr) ≤ 2 := fun l => by
    induction l with
    | nil => simp [PyData.depthAll]
    | cons a l ih =>
      rw [List.map_cons, PyData.depthAll]
      refine Nat.max_le.mpr ⟨?_, ih⟩
      have e : (dV a.2).depth = 1 := by
        unfold dV
        rw [PyData.depth, PySem.W.depth_ints]
      simp [dPr, PyData.depth, PyData.depthAll, e]
  have h3 := h2 l
  unfold SeqAt.shaped
  rw [PyData.canLay0, h1, PyData.depth, Bool.true_and, decide_eq_true_iff]
  omega
theorem eqv_Prs_nil (l : List (Int × Vec)) : PyData.eqv (.list (l.map dPr)) (.list []) = decide (l = []) := by
  cases l with
  | nil => simp [PyData.eqv, PyData.eqvAll]
  | cons a l => simp [PyData.eqv, PyData.eqvAll]
/-- the dict d has the keys F, the list l the pairs -/
structure VSt (K : PySem.W.Frag) (P : Program) (w : World) (d : Addr) (F : List (Int × Vec)) (Hs H : Hp) : Prop where
  n : Hs d = none
  x : ∃ xs, H d = some (NdO P w d xs) ∧ NdK K Hs xs ∧ xs.map (·.1) = F.map kPr ∧ ∀ x ∈ xs, ∃ n : Int, x.2.2 = .int n
theorem VSt.fw {K : PySem.W.Frag} {P : Program} {w : World} {d : Addr} {F : List (Int × Vec)} {Hs H Hs2 H2 : Hp} (S : VSt K P w d F Hs H) (f : Fw Hs H Hs2 H2) : VSt K P w d F Hs2 H2 := by
  obtain ⟨xs, h1, h2, h3⟩ := S.x
  exact ⟨f.d d _ h1 S.n, xs, f.a _ _ h1, h2.ex f.b, h3⟩
theorem VSt.len {K : PySem.W.Frag} {P : Program} {w : World} {d : Addr} {F : List (Int × Vec)} {Hs H : Hp} {xs : NX} (e : xs.map (·.1) = F.map kPr) : xs.length = F.length := by
  have := congrArg List.length e
  rw [List.length_map, List.length_map] at this
  exact this
theorem VSt.other {K : PySem.W.Frag} {P : Program} {w : World} {d la : Addr} {o : HO} {F : List (Int × Vec)} {Hs H : Hp} (S : VSt K P w d F Hs H) (h : d ≠ la) : VSt K P w d F Hs (upd H la o) := by
  obtain ⟨xs, h1, h2⟩ := S.x
  exact ⟨S.n, xs, by rw [upd_ne h]; exact h1, h2⟩
theorem vst_put {K : PySem.W.Frag} {P : Program} {w : World} {d b : Addr} {F : List (Int × Vec)} {Hs H : Hp} {xs : NX} {p : Int × Vec} {m : Int} (n : Hs d = none) (h2 : NdK K Hs xs) (h3 : xs.map (·.1) = F.map kPr) (h4 : ∀ x ∈ xs, ∃ n : Int, x.2.2 = .int n) (hp : p ∉ F) (hb : Dp K Hs (.ref b) (kPr p).data) :
    VSt K P w d (F ++ [p]) Hs (upd H d (NdO P w d (ndPut xs (kPr p) b (.int m)))) := by
  refine ⟨n, _, upd_same, h2.put hb (kPr_depth p), ?_, fun x hx => ?_⟩
  · rw [ndPut_keys, h3, ← ddOn_map kPr_inj]
    unfold ddOn
    rw [if_neg hp]
  · unfold ndPut at hx
    split at hx
    · obtain ⟨y, hy, e⟩ := List.mem_map.mp hx
      by_cases q : y.1 = kPr p
      · rw [if_pos q] at e
        subst e
        exact ⟨m, rfl⟩
      · rw [if_neg q] at e
        subst e
        exact h4 y hy
    · rcases List.mem_append.mp hx with z | z
      · exact h4 x z
      · rw [List.mem_singleton.mp z]
        exact ⟨m, rfl⟩
theorem ndLook_in {xs : NX} {F : List (Int × Vec)} (e : xs.map (·.1) = F.map kPr) (p : Int × Vec) : (ndLook xs (kPr p)).isSome = decide (p ∈ F) := by
  have h : (ndLook xs (kPr p)).isSome = true ↔ kPr p ∈ xs.map (·.1) := by
    unfold ndLook
    rw [Option.isSome_map, List.find?_isSome, List.mem_map]
    exact ⟨fun ⟨x, hx, q⟩ => ⟨x, hx, by simpa using q⟩, fun ⟨x, hx, q⟩ => ⟨x, hx, by simpa using q⟩⟩
  rw [e, List.mem_map] at h
  rw [Bool.eq_iff_iff, h, decide_eq_true_iff]
  exact ⟨fun ⟨q, hq, z⟩ => kPr_inj _ _ z ▸ hq, fun hp => ⟨p, hp, rfl⟩⟩
theorem ndLook_int {xs : NX} (h : ∀ x ∈ xs, ∃ n : Int, x.2.2 = .int n) {k : NestedKey} (hk : (ndLook xs k).isSome = true) : ∃ n : Int, ndLook xs k = some (.int n) := by
  unfold ndLook at *
  cases g : xs.find? fun x => decide (x.1 = k) with
  | none => rw [g] at hk; cases hk
  | some x =>
    obtain ⟨n, e⟩ := h x (List.mem_of_find?_eq_some g)
    exact ⟨n, by rw [Option.map_some, e]⟩
def spVecs (K : PySem.W.Frag) (P : Program) (w : World) : Sp := fun vs H Q _ => ∃ (Hs : Hp) (a b c : V) (M : Mac), vs = [.int (M.many : Int), a, b, c] ∧ Ex Hs H ∧ MOk M ∧ Dp K Hs a (.tuple (M.steps.map dStp)) ∧ Dp K Hs b (.list (M.kinds.map .str)) ∧ Dp K Hs c (.list ((manyL M).map .int)) ∧
  ∀ v Hs2 H2 (F : List (Int × Vec)), Fw Hs H Hs2 H2 → NdAt K P w (F.map kPr) v Hs2 → F.Nodup → (∀ p, p ∈ F ↔ Rch M p.1 p.2) → Q v H2
section
variable {P : Program} {w : World} {K : PySem.W.Frag} {mg : Str → Option Value} {base : Heap} {σ : L2.St} {H : Hp} {ta tb tc te : TE}
/-- p not in d -/
theorem et_notInV {d : Addr} {F : List (Int × Vec)} {p : Int × Vec} {tk td : TE} {Hs H : Hp} (S : VSt K P w d F Hs H) (eH : Ex Hs H) (hk : EvD K tk σ Hs (dPr p)) (hd : ∀ H1, Ex H H1 → ∀ Q : VK, (∀ H2, Ex H1 H2 → Q (.ref d) H2) → td σ H1 Q) : EvT (tTest (tOp (rInN K P w true) tk td)) σ H (!decide (p ∈ F)) := fun H1 e1 Q q => by
  exact hk Hs H1 (Ex.refl _) (eH.trans e1) _ fun y Hs2 H2 f2 p2 => hd H2 (e1.trans f2.a) _ fun H3 e3 => by
    obtain ⟨xs, x1, x2, x3, x4⟩ := S.x
    have p3 : Dp K H3 y (kPr p).data := by rw [kPr_data]; exact dp_ex (f2.c.trans e3) p2
    have p2' := p2
    unfold dPr at p2'
    obtain ⟨b, _, rfl, _⟩ := dp_tup p2'
    refine ⟨d, b, xs, kPr p, rfl, rfl, .inl (e3 _ _ (f2.a _ _ (e1 _ _ x1))), x2.ex (f2.b.trans (f2.c.trans e3)), p3, kPr_depth p, _, rfl, ?_⟩
    have e := ndLook_in x3 p
    rw [if_pos rfl, e]
    exact q H3 (f2.a.trans e3)
/-- found[p] + 1 -/
theorem ev_next {d : Addr} {F : List (Int × Vec)} {p : Int × Vec} {tk td : TE} {Hs H : Hp} (S : VSt K P w d F Hs H) (eH : Ex Hs H) (hp : p ∈ F) (hk : EvD K tk σ Hs (dPr p)) (hd : ∀ H1, Ex H H1 → ∀ Q : VK, (∀ H2, Ex H1 H2 → Q (.ref d) H2) → td σ H1 Q) :
    ∃ n : Int, Ev (tOp (rI0 fun i j => .int (i + j)) (tNGet K P w td tk) (tC (.int 1))) σ H (.int (n + 1)) := by
  obtain ⟨xs, x1, x2, x3, x4⟩ := S.x
  have hl := ndLook_in x3 p
  rw [decide_eq_true hp] at hl
  obtain ⟨n, hn⟩ := ndLook_int x4 hl
  refine ⟨n, ev_add (fun H1 e1 Q q => ?_) ev_c⟩
  exact hd H1 e1 _ fun H2 e2 => hk Hs H2 (Ex.refl _) (eH.trans (e1.trans e2)) _ fun y Hs3 H3 f3 p3 => by
    have p4 : Dp K H3 y (kPr p).data := by rw [kPr_data]; exact dp_ex f3.c p3
    unfold dPr at p3
    obtain ⟨b, _, rfl, _⟩ := dp_tup p3
    exact ⟨d, b, xs, kPr p, .int n, rfl, rfl, .inl (f3.a _ _ (e2 _ _ (e1 _ _ x1))), x2.ex (f3.b.trans f3.c), p4, kPr_depth p, hn, q H3 (e2.trans f3.a)⟩
theorem y_nputV {σ : L2.St} {Hs H : Hp} {td ty tv : TE} {D : Ends} {v : V} {xs : NX} {o : Addr} {p : Int × Vec} (h : Ev tv σ H v) (hd : ∀ H1, Ex H H1 → ∀ Q : VK, (∀ H2, Ex H1 H2 → Q (.ref o) H2) → td σ H1 Q) (hk : EvD K ty σ Hs (dPr p)) (e : Ex Hs H) (ho : H o = some (NdO P w o xs)) (hx : NdK K Hs xs) (hl : xs.length < sizeLine)
    (k : ∀ b Hs1 H1, Fw Hs H Hs1 H1 → Dp K Hs1 (.ref b) (kPr p).data → D.nx σ (upd H1 o (NdO P w o (ndPut xs (kPr p) b v)))) : sNPut K P w td ty tv D σ H :=
  h H (Ex.refl _) _ fun H1 e1 => hd H1 e1 _ fun H2 e2 => hk Hs H2 (Ex.refl _) (e.trans (e1.trans e2)) _ fun y Hs3 H3 f3 p3 => by
    have p4 : Dp K Hs3 y (kPr p).data := by rw [kPr_data]; exact p3
    unfold dPr at p3
    obtain ⟨b, _, rfl, _⟩ := dp_tup p3
    exact ⟨o, b, xs, kPr p, rfl, rfl, f3.a _ _ (e2 _ _ (e1 _ _ ho)), hx.ex (f3.b.trans f3.c), dp_ex f3.c p4, kPr_depth p, hl, k b Hs3 H3 ((Fw.skip e (e1.trans e2)).trans f3) p4⟩
theorem y_disp1 {σ : L2.St} {Hs H : Hp} {tk : TE} {D : Ends} {i : Nat} {p : Int × Vec} (hk : EvD K tk σ Hs (dPr p)) (eH : Ex Hs H)
    (k : ∀ d b Hs1 H1, H d = none → Fm Hs H Hs1 H1 → Hs1 d = none → Ex H H1 → H1 d = some (NdO P w d [(kPr p, b, .int 0)]) → Dp K Hs1 (.ref b) (kPr p).data → D.nx (σ.set i (some (.ref d))) H1) : tAsg (tDisp1N K P w tk (tC (.int 0))) (gName i) D σ H := fun d hd =>
  hk Hs (upd H d (NdO P w d [])) (Ex.refl _) (eH.trans (Ex.new hd)) _ fun y Hs1 H1 f1 p1 => by
    have p2 : Dp K Hs1 y (kPr p).data := by rw [kPr_data]; exact p1
    unfold dPr at p1
    obtain ⟨b, _, rfl, _⟩ := dp_tup p1
    have n1 : Hs1 d = none := f1.d d _ upd_same (fresh_back eH hd)
    refine ⟨kPr p, b, rfl, f1.a _ _ upd_same, dp_ex f1.c p2, kPr_depth p, k d b Hs1 _ hd ⟨fun x hx => ?_, f1.b, Ex.mut f1.c n1, fun x o hx hn => f1.d x o (by rw [upd_ne (ne_of_none hx hd)]; exact hx) hn⟩ n1 (Ex.mut ((Ex.new hd).trans f1.a) hd) upd_same p2⟩
    by_cases q : x = d
    · subst q
      exact hd
    · rw [upd_ne q] at hx
      have := fresh_back f1.a hx
      rw [upd_ne q] at this
      exact this
theorem y_listN {σ : L2.St} {H : Hp} {D : Ends} {i j : Nat} {d : Addr} {xs : NX} (hs : σ[j]? = some (some (.ref d))) (hd : H d = some (NdO P w d xs)) (k : ∀ l, H l = none → D.nx (σ.set i (some (.ref l))) (upd H l (.lst (xs.map fun x => V.ref x.2.1)))) :
    tAsg (tCB (fun zs H Q => ∃ d xs, zs = [V.ref d] ∧ Rd H d (NdO P w d xs) ∧ ∀ p, H p = none → Q (.ref p) (upd H p (.lst (xs.map fun x => V.ref x.2.1)))) (tCons (tVar j) tNil)) (gName i) D σ H := ⟨.ref d, hs, d, xs, rfl, .inl hd, k⟩
abbrev NVE : List Str := ["_law_many", "_law_steps", "_law_kinds", "_law_limits_here", "_law_found", "_law_level", "_law_late", "_law_state", "_law_vector", "_law_first", "_law_kind", "_law_seen", "_law_goal", "_law_more", "_law_one", "_law_number", "_law_limit"]
theorem scVE : FnScope NVE ["_law_many", "_law_steps", "_law_kinds", "_law_limits_here"] (defScope lVectors) := ⟨rfl, rfl, rfl, by decide +kernel, rfl, by decide +kernel, by decide +kernel⟩
theorem ok_lVecs (T : G K mg) : Ok P w K mg base CX0 1 (He.ga K "_law_vectors") ["_law_many", "_law_steps", "_law_kinds", "_law_limits_here"] (spVecs K P w) := by
  obtain ⟨fd, F⟩ := T.fun0 30
  refine ok_of F scVE (fun vs H Q E h => ?_) (fun _ _ _ _ _ _ us hl => match us, hl with | [_, _, _, _], _ => rfl) fun cdv A outer s H vs Q E hr h => ?_
  · obtain ⟨_, _, _, _, _, rfl, _⟩ := h
    rfl
  · obtain ⟨Hs, sx, kx, lx, M, rfl, eH, O, hsx, hkx, hlx, kQ⟩ := h
    refine ⟨_, pss_cons (ps_set (i := 4) scVE.nd rfl (Or.inl rfl) (pe_disp1N hr.units (pe_tup (pa_cons pe_int (pa_cons (pe_op op_repN (pe_tup (pa_cons pe_int pa_nil)) (pe_callB call_len_seq rfl (T.fr "len") (by decide +kernel) (pa_cons (pv 2) pa_nil))) pa_nil))) pe_int))
      (pss_cons (ps_set (i := 5) scVE.nd rfl (Or.inl rfl) (pe_callTy (call_list_dN rfl) rfl (T.fr "list") (by decide +kernel) (pa_cons (pv 4) pa_nil)))
      (pss_cons (ps_while PassesOwn.never (pt_cmpR (op_neD hr.units) (pv 5) (pe_lst pa_nil) (nomark _))
        (pss_cons (ps_set (i := 6) scVE.nd rfl (Or.inl rfl) (pe_lst pa_nil))
        (pss_cons (ps_for PassesOwn.never rfl (pi_list (pe_callTy call_list_of rfl (T.fr "list") (by decide +kernel) (pa_cons (pv 5) pa_nil))) (pg_tup rfl (pgs_cons (pg_name (i := 7) scVE.nd rfl (Or.inl rfl)) (pgs_cons (pg_name (i := 8) scVE.nd rfl (Or.inl rfl)) pgs_nil)))
          (pss_one (ps_for PassesOwn.never rfl (pi_tup (pv 1)) (pg_tup rfl (pgs_cons (pg_name (i := 9) scVE.nd rfl (Or.inl rfl)) (pgs_cons (pg_name (i := 10) scVE.nd rfl (Or.inr rfl)) (pgs_cons (pg_name (i := 11) scVE.nd rfl (Or.inl rfl)) (pgs_cons (pg_name (i := 12) scVE.nd rfl (Or.inl rfl)) pgs_nil)))))
            (pss_one (ps_if (pt_cmpR op_eq (pv 9) (pv 7) (nomark _))
              (pss_cons (ps_set (i := 13) scVE.nd rfl (Or.inl rfl) (pe_callTy call_tuple_of rfl (T.fr "tuple") (by decide +kernel) (pa_cons (pe_lc (own := [("_law_one", 14), ("_law_number", 15)]) (g := g2 K 14 15) (tt := tYes) (te := tBump (tVar 14) (tVar 15) (tVar 10)) rfl scVE.nd (pi_zipM rfl (T.fr "zip") (pa_cons (pv 2) (pa_cons (pv 8) pa_nil))) (blkOk_by (N := NVE) (sc := defScope lVectors) (by decide +kernel))
                  (fun _ _ _ _ _ => pg_tup rfl (pgs_cons (pg_name (i := 14) scVE.nd rfl (Or.inl rfl)) (pgs_cons (pg_name (i := 15) scVE.nd rfl (Or.inl rfl)) pgs_nil))) (fun _ _ _ _ _ => pts_nil) (fun _ _ _ _ _ => pe_op op_add (pv 15) (pe_ifExp (pt_cmpR op_eq (pv 14) (pv 10) (nomark _)) pe_int pe_int))) pa_nil)))
              (pss_one (ps_if (PW.pt (pw_and (pt_val (pe_callB (cr_all rfl) rfl (T.fr "all") (by decide +kernel) (pa_cons (pe_lc (own := [("_law_number", 15), ("_law_limit", 16)]) (g := g2 K 15 16) (tt := tYes) (te := tOp (rI0 fun i j => .bl (decide (i ≤ j))) (tVar 15) (tVar 16)) rfl scVE.nd (pi_zipM rfl (T.fr "zip") (pa_cons (pv 13) (pa_cons (pv 3) pa_nil))) (blkOk_by (N := NVE) (sc := defScope lVectors) (by decide +kernel))
                    (fun _ _ _ _ _ => pg_tup rfl (pgs_cons (pg_name (i := 15) scVE.nd rfl (Or.inl rfl)) (pgs_cons (pg_name (i := 16) scVE.nd rfl (Or.inl rfl)) pgs_nil))) (fun _ _ _ _ _ => pts_nil) (fun _ _ _ _ _ => pe_cmpR op_le (pv 15) (pv 16) (nomark _))) pa_nil)))
                  (pw_and1 (pt_cmpR (op_notInN hr.units) (pe_tup (pa_cons (pv 12) (pa_cons (pv 13) pa_nil))) (pv 4) rfl))))
                (pss_cons (ps_nput hr.units (pv 4) (pe_tup (pa_cons (pv 12) (pa_cons (pv 13) pa_nil))) (pe_op op_add (pe_nget hr.units (pv 4) (pe_tup (pa_cons (pv 7) (pa_cons (pv 8) pa_nil))) (fun _ _ => rfl)) pe_int) rfl)
                (pss_one (ps_expr (pe_bm PySem.F.plainAttrs_list PySem.F.slot_list_append PySem.F.type_list_append mt_append (pv 6) (pa_cons (pe_tup (pa_cons (pv 12) (pa_cons (pv 13) pa_nil))) pa_nil))))) pss_nil))) pss_nil)))))
        (pss_one (ps_set (i := 5) scVE.nd rfl (Or.inl rfl) (pv 6))))))
      (pss_one (ps_ret (pv 4))))), ?_⟩
    have few := O.few
    have zk : EvD K (tTup (tCons (tC (.int 0)) (tCons (tOp (rRepN K) (tTup (tCons (tC (.int 0)) tNil)) (tCB (fun xs H Q => ∃ p ys, xs = [.ref p] ∧ (SqL K H p ys ∨ SqT K H p ys) ∧ Q (.int ys.length) H) (tCons (tVar 2) tNil))) tNil))) (start NVE [.int (M.many : Int), sx, kx, lx]) Hs (dPr (0, zeroV M.kinds)) := by
      refine evd_tup (ead_cons (evd_c (.int 0)) (ead_cons (evd_repN0 ?_ (by omega)) ead_nil)) (by show 2 ≤ 100000; decide)
      have := ev_lenD (K := K) (t := false) (σ := start NVE [.int (M.many : Int), sx, kx, lx]) (evd_var (i := 2) (v := kx) rfl hkx)
      rw [List.length_map] at this
      exact this
    refine y_disp1 zk eH fun d b Hs1 H1 hd f1 n1 x1 d1 pb => ?_
    dsimp only
    refine y_listN (i := 5) (j := 4) rfl d1 fun l hl => ?_
    dsimp only
    have f2 : Fw Hs1 H1 (upd Hs1 l (.lst [.ref b])) (upd H1 l (.lst [.ref b])) := Fw.new f1.c hl
    have pb2 : Dp K Hs1 (.ref b) (dPr (0, zeroV M.kinds)) := by
      have q := pb
      rw [kPr_data] at q
      exact q
    have dl : Dp K (upd Hs1 l (.lst [.ref b])) (.ref l) (.list ([((0 : Int), zeroV M.kinds)].map dPr)) := .lst (sq_of upd_same) (dps_ex f2.b (dps_one pb2))
    have S0 : VSt K P w d [(0, zeroV M.kinds)] Hs1 H1 := ⟨n1, _, d1, fun x hx => by rw [List.mem_singleton.mp hx]; exact ⟨pb, kPr_depth _⟩, rfl, fun x hx => by rw [List.mem_singleton.mp hx]; exact ⟨0, rfl⟩⟩
    have S1 := S0.fw f2
    refine y_while (Hs := upd Hs1 l (.lst [.ref b])) (fun _ _ _ => True) (fun σ' Hs' H' m => ∃ lv F level z6 z7 z8 z9 z10 z11 z12 z13, σ' = [some (.int (M.many : Int)), some sx, some kx, some lx, some (.ref d), some (.ref lv), z6, z7, z8, z9, z10, z11, z12, z13, none, none, none] ∧ Ex H H' ∧ Ex Hs Hs' ∧ VSt K P w d F Hs' H' ∧
        Dp K Hs' (.ref lv) (.list (level.map dPr)) ∧ VInv M F level ∧ m = 2 * (500 - F.length) + if level = [] then 0 else 1) f2.c trivial
      ⟨_, l, _, [(0, zeroV M.kinds)], none, none, none, none, none, none, none, none, rfl, x1.trans f2.a, f1.b.trans f2.b, S1, dl, .zero M, rfl⟩ ?_
    rintro σ' Hs' H' m fm - ⟨lv, F, level, z6, z7, z8, z9, z10, z11, z12, z13, rfl, xH, xHs, S, hlv, V, rfl⟩
    have tst := ev_neD (K := K) (σ := [some (.int (M.many : Int)), some sx, some kx, some lx, some (.ref d), some (.ref lv), z6, z7, z8, z9, z10, z11, z12, z13, none, none, none]) (evd_var (i := 5) (v := .ref lv) rfl (dp_ex fm.c hlv)) (evd_lst (ds := []) ead_nil (by decide)) (shaped_Prs level) (by rfl)
    rw [eqv_Prs_nil] at tst
    refine ⟨!decide (level = []), et_test tst, fun hb H2 e2 => ?_, fun hb H2 e2 N hN => ?_⟩
    · have el : level = [] := by simpa using hb
      subst el
      dsimp only
      obtain ⟨xs, h1, h2, h3, _⟩ := S.x
      have eb : Ex (upd Hs' d (NdO P w d xs)) H2 := fun y u hy => by
        by_cases q : y = d
        · subst q; rw [upd_same] at hy; rw [← hy]; exact e2 _ _ h1
        · rw [upd_ne q] at hy; exact e2 _ _ (fm.c y u hy)
      refine y_ret (P := NdAt K P w (F.map kPr)) (Hs := upd Hs' d (NdO P w d xs)) (evp_of (ev_var (v := .ref d) rfl) fun H3 e3 => ⟨d, xs, rfl, e3 _ _ upd_same, (h2.ex (Ex.new S.n)).ex e3, h3⟩) eb fun v Hs9 H9 f9 hv => kQ v Hs9 H9 F ⟨xH.trans (e2.trans f9.a), xHs.trans ((Ex.new S.n).trans f9.b), f9.c, fun y o hy hn => ?_⟩ hv V.nd (V.fin)
      have yd : y ≠ d := ne_of_none hy hd
      have n2 := f1.d y o hy hn
      have n3 := f2.d y o (x1 _ _ hy) n2
      have n4 := fm.d y o (f2.a _ _ (x1 _ _ hy)) n3
      exact f9.d y o (e2 _ _ (xH _ _ hy)) (by rw [upd_ne yd]; exact n4)
    · have el : level ≠ [] := by simpa using hb
      refine y_asg (P := fun v H => ∃ l, v = .ref l ∧ H2 l = none ∧ H l = some (.lst [])) (Hs := H2) (fun Hs' H' a b Q q => ⟨Nat.zero_le _, fun l hl => q _ (upd Hs' l (.lst [])) _ (Fw.new b hl) ⟨l, rfl, fresh_back (a.trans b) hl, upd_same⟩⟩) (Ex.refl _) fun v3 Hs3 H3 f3 hv => ?_
      obtain ⟨la, rfl, hla0, hla⟩ := hv
      have hla3 : H3 la = some (.lst []) := f3.c _ _ hla
      dsimp only
      have nla : Hs' la = none := fresh_back (fm.c.trans e2) hla0
      have Hla : H la = none := fresh_back (xH.trans e2) hla0
      have e3 : Ex H' H3 := e2.trans f3.a
      have m3 : Fm Hs' H' Hs' H3 := (Fw.skip fm.c e3).m
      have S3 : VSt K P w d F Hs' H3 := S.fw (Fw.skip fm.c e3)
      have dla : d ≠ la := by
        obtain ⟨xs, h1, _⟩ := S.x
        exact ne_of_none (e2 _ _ h1) hla0
      refine y_for (Hs := Hs') (wk_list2 (j := 7) (k := 8) (evd_listOf (t := false) (evd_var (i := 5) (σ := [some (.int (M.many : Int)), some sx, some kx, some lx, some (.ref d), some (.ref lv), some (.ref la), z7, z8, z9, z10, z11, z12, z13, none, none, none]) (v := .ref lv) rfl hlv)) (fun d hd => by
          obtain ⟨p, _, rfl⟩ := List.mem_map.mp hd
          exact ⟨_, _, rfl⟩)) m3.c
        (fun i σ' Hs4 H4 => ∃ late z7 z8 z9 z10 z11 z12 z13, σ' = [some (.int (M.many : Int)), some sx, some kx, some lx, some (.ref d), some (.ref lv), some (.ref la), z7, z8, z9, z10, z11, z12, z13, none, none, none] ∧ Hs4 la = none ∧ (∃ ys, H4 la = some (.lst ys) ∧ DpAll K Hs4 ys (late.map dPr)) ∧
          VSt K P w d (F ++ late) Hs4 H4 ∧ Ex H H4 ∧ Ex Hs' Hs4 ∧ XInv M F late (fun p st => p ∈ level.take i ∧ st ∈ M.steps ∧ st.st = p.1))
        (fun Hs4 H4 f4 => ⟨[], z7, z8, z9, z10, z11, z12, z13, rfl, f4.d _ _ hla3 nla, ⟨[], f4.a _ _ hla3, .nil⟩, by rw [List.append_nil]; exact S3.fw f4, xH.trans (e3.trans f4.a), f4.b, (XInv.zero V).imp (fun p st h => by simp at h)⟩)
        (fun i σ4 Hs4 H4 hi fm4 iv σ5 Hs5 H5 f5 hS N4 hN4 => ?_) fun σ4 Hs4 H4 fm4 iv => ?_
      · obtain ⟨late, y7, y8, y9, y10, y11, y12, y13, rfl, n4, ⟨ys, hys, dys⟩, S4, xH4, xs4, X4⟩ := iv
        obtain ⟨u, v, ⟨a, c, hac, pa, pc⟩, rfl⟩ := hS
        rw [List.getElem?_map] at hac
        cases hp0 : level[i]? with
        | none => rw [hp0] at hac; cases hac
        | some p0 =>
          rw [hp0] at hac
          have hac2 : dPr p0 = .tuple [a, c] := Option.some.inj hac
          unfold dPr at hac2
          injection hac2 with hac3
          injection hac3 with ea hac4
          injection hac4 with ec _
          subst ea ec
          have := dp_int pa
          subst this
          have hp0l := List.mem_of_getElem? hp0
          have xs5 : Ex Hs Hs5 := xHs.trans (xs4.trans f5.b)
          have lp0 : p0.2.length = M.kinds.length := rch_len (V.rch p0 (V.sub p0 hp0l))
          refine y_for (Hs := Hs5) (wk_tupS (j := 9) (k := 10) (l := 11) (m := 12) (evd_var (i := 1) (σ := [some (.int (M.many : Int)), some sx, some kx, some lx, some (.ref d), some (.ref lv), some (.ref la), some (.int p0.1), some v, y9, y10, y11, y12, y13, none, none, none]) (v := sx) rfl (dp_ex xs5 hsx))) f5.c
            (fun j σ' Hs6 H6 => ∃ late z9 z10 z11 z12 z13, σ' = [some (.int (M.many : Int)), some sx, some kx, some lx, some (.ref d), some (.ref lv), some (.ref la), some (.int p0.1), some v, z9, z10, z11, z12, z13, none, none, none] ∧ Hs6 la = none ∧ (∃ ys, H6 la = some (.lst ys) ∧ DpAll K Hs6 ys (late.map dPr)) ∧
              VSt K P w d (F ++ late) Hs6 H6 ∧ Ex H H6 ∧ Ex Hs5 Hs6 ∧ XInv M F late (fun p st => (p ∈ level.take i ∧ st ∈ M.steps ∧ st.st = p.1) ∨ (p = p0 ∧ st ∈ M.steps.take j ∧ st.st = p0.1)))
            (fun Hs6 H6 f6 => ⟨late, y9, y10, y11, y12, y13, rfl, (f5.trans f6).d _ _ hys n4, ⟨ys, (f5.trans f6).a _ _ hys, dps_ex (f5.trans f6).b dys⟩, S4.fw (f5.trans f6), xH4.trans (f5.trans f6).a, f6.b, X4.imp (fun p st h => by
                rcases h with h | ⟨_, h, _⟩
                · exact h
                · simp at h)⟩)
            (fun j σ6 Hs6 H6 hj fm6 iv σ7 Hs7 H7 f7 hS N6 hN6 => ?_) fun σ6 Hs6 H6 fm6 iv => ?_
          · obtain ⟨late6, w9, w10, w11, w12, w13, rfl, n6, ⟨ys6, hys6, dys6⟩, S6, xH6, xs6, X6⟩ := iv
            obtain ⟨st, hst, rfl⟩ := hS
            have hstm := List.mem_of_getElem? hst
            have tk : ∀ {x : Stp}, x ∈ M.steps.take (j + 1) → x ∈ M.steps.take j ∨ x = st := fun {x} hx => by
              rw [List.take_add_one, hst] at hx
              rcases List.mem_append.mp hx with z | z
              · exact .inl z
              · exact .inr (by simpa using z)
            have S7 := S6.fw f7
            have n7 := f7.d _ _ hys6 n6
            have hys7 := f7.a _ _ hys6
            refine y_if (et_test (ev_eqI (ev_var (i := 9) (v := .int st.st) rfl) (ev_var (i := 7) (v := .int p0.1) rfl))) (Ex.refl _) (fun hb H8 e8 => ?_) fun hb H8 e8 => ?_
            · have he : st.st = p0.1 := of_decide_eq_true hb
              have e78 : Ex Hs7 H8 := f7.c.trans e8
              have x7 : Ex Hs Hs7 := xs5.trans (xs6.trans f7.b)
              have hv7 : Dp K Hs7 v (dV p0.2) := dp_ex (xs6.trans f7.b) pc
              refine y_asg (evd_more (K := K) (j := 14) (k := 15) (kinds := M.kinds) (v := p0.2) (kd := st.ki) (H := Hs7) (σ := [some (.int (M.many : Int)), some sx, some kx, some lx, some (.ref d), some (.ref lv), some (.ref la), some (.int p0.1), some v, some (.int st.st), some (.str st.ki), some (.str st.se), some (.int st.go), w13, none, none, none])
                (evd_var (i := 2) (v := kx) rfl (dp_ex x7 hkx)) (evd_var (i := 8) (v := v) rfl hv7) (by omega) (fun _ _ => rfl) (fun _ _ => rfl) (fun _ _ => rfl) fun _ _ _ _ => evd_var (i := 10) (v := .str st.ki) rfl (.str _)) e78 fun x13 Hs8 H9 f9 h13 => ?_
              dsimp only
              have lbp := bump_len (kinds := M.kinds) st.ki lp0
              have S9 := (S7.fw (Fw.skip f7.c e8)).fw f9
              have n9 := f9.d _ _ (e8 _ _ hys7) n7
              have hys9 := f9.a _ _ (e8 _ _ hys7)
              have x8 : Ex Hs Hs8 := x7.trans f9.b
              have F9 : Fw Hs6 H6 Hs8 H9 := (f7.trans (Fw.skip f7.c e8)).trans f9
              have prd : ∀ {Hz : Hp}, Ex Hs8 Hz → EvD K (tTup (tCons (tVar 12) (tCons (tVar 13) tNil))) [some (.int (M.many : Int)), some sx, some kx, some lx, some (.ref d), some (.ref lv), some (.ref la), some (.int p0.1), some v, some (.int st.st), some (.str st.ki), some (.str st.se), some (.int st.go), some x13, none, none, none] Hz (dPr (st.go, bump M.kinds p0.2 st.ki)) := fun e =>
                evd_tup (ead_cons (evd_var (i := 12) (v := .int st.go) rfl (.int _)) (ead_cons (evd_var (i := 13) (v := x13) rfl (dp_ex e h13)) ead_nil)) (by show 2 ≤ 100000; decide)
              have tal : Ev (tAllLe K 15 16 (tVar 13) (tVar 3)) [some (.int (M.many : Int)), some sx, some kx, some lx, some (.ref d), some (.ref lv), some (.ref la), some (.int p0.1), some v, some (.int st.st), some (.str st.ki), some (.str st.se), some (.int st.go), some x13, none, none, none] H9 (.bl (inMany M (bump M.kinds p0.2 st.ki))) :=
                ev_allLe (K := K) (p := true) (q := false) (evd_var (i := 13) (v := x13) rfl (dp_ex f9.c h13)) (evd_var (i := 3) (v := lx) rfl (dp_ex (x8.trans f9.c) hlx)) (by rw [lbp]; omega) (fun _ _ => rfl) (fun _ _ => rfl) fun _ _ => rfl
              refine y_if (et_and (et_B tal) fun _ => et_notInV (p := (st.go, bump M.kinds p0.2 st.ki)) (td := tVar 4) S9 f9.c (prd (Ex.refl _)) fun H1 e Q q => ⟨.ref d, rfl, q H1 (Ex.refl _)⟩) (Ex.refl _) (fun hb2 H10 e10 => ?_) fun hb2 H10 e10 => ?_
              · rw [Bool.and_eq_true, Bool.not_eq_true', decide_eq_false_iff_not] at hb2
                obtain ⟨hb3, hnew⟩ := hb2
                have S10 := S9.fw (Fw.skip f9.c e10)
                have F10 : Fw Hs6 H6 Hs8 H10 := F9.trans (Fw.skip f9.c e10)
                obtain ⟨m, hm⟩ := ev_next (K := K) (P := P) (w := w) (p := p0) (tk := tTup (tCons (tVar 7) (tCons (tVar 8) tNil))) (td := tVar 4) (σ := [some (.int (M.many : Int)), some sx, some kx, some lx, some (.ref d), some (.ref lv), some (.ref la), some (.int p0.1), some v, some (.int st.st), some (.str st.ki), some (.str st.se), some (.int st.go), some x13, none, none, none]) S10 F10.c (List.mem_append_left _ (V.sub p0 hp0l))
                  (evd_tup (ds := [.int p0.1, dV p0.2]) (ead_cons (evd_var (i := 7) (v := .int p0.1) rfl (.int _)) (ead_cons (evd_var (i := 8) (v := v) rfl (dp_ex f9.b hv7)) ead_nil)) (by show 2 ≤ 100000; decide)) fun H1 e Q q => ⟨.ref d, rfl, q H1 (Ex.refl _)⟩
                obtain ⟨xs, a1, a2, a3, a4⟩ := S10.x
                have xlen := VSt.len (K := K) (P := P) (w := w) (d := d) (Hs := Hs8) (H := H10) a3
                have few5 := rch_few O X6.nd X6.rch
                refine y_nputV (Hs := Hs8) hm (fun H1 e Q q => ⟨.ref d, rfl, q H1 (Ex.refl _)⟩) (prd (Ex.refl _)) F10.c a1 a2 (sz_lt (by omega)) fun b11 Hs11 H11 f11 p11 => ?_
                have n11 := f11.d _ _ a1 S10.n
                have S11 := vst_put (K := K) (P := P) (w := w) (H := H11) (m := m + 1) n11 (a2.ex f11.b) a3 a4 hnew p11
                have F11 : Fm Hs6 H6 Hs11 (upd H11 d (NdO P w d (ndPut xs (kPr (st.go, bump M.kinds p0.2 st.ki)) b11 (.int (m + 1))))) := (F10.trans f11).m.trans (Fm.mut f11.c n11)
                have hys11 : (upd H11 d (NdO P w d (ndPut xs (kPr (st.go, bump M.kinds p0.2 st.ki)) b11 (.int (m + 1))))) la = some (.lst ys6) := by
                  rw [upd_ne dla.symm]
                  exact f11.a _ _ (e10 _ _ hys9)
                have nla11 := f11.d _ _ (e10 _ _ hys9) n9
                have ylen : ys6.length = late6.length := by rw [dps_len dys6, List.length_map]
                rw [List.length_append] at few5
                dsimp only
                refine y_app (ta := tVar 6) (Hs := Hs11) hys11 F11.c (fun H1 e Q q => ⟨_, rfl, q H1 (Ex.refl _)⟩) (prd f11.b) (by omega) fun pv Hs12 H12 f12 p12 => ?_
                have nla12 := f12.d _ _ hys11 nla11
                have S12 := (S11.fw f12).other (o := .lst (ys6 ++ [pv])) dla
                rw [List.append_assoc] at S12
                have b12 : Ex Hs6 Hs12 := F10.b.trans (f11.b.trans f12.b)
                refine hN6 _ Hs12 _ (F11.trans (f12.m.trans (Fm.mut f12.c nla12))) ⟨late6 ++ [(st.go, bump M.kinds p0.2 st.ki)], _, _, _, _, _, rfl, nla12, ⟨_, upd_same, ?_⟩, S12, ?_, xs6.trans b12, ?_⟩
                · rw [List.map_append]
                  exact dps_app (dps_ex b12 dys6) (dps_one p12)
                · exact Ex.mut ((Ex.mut (xH6.trans (F10.a.trans f11.a)) hd).trans f12.a) Hla
                · refine (X6.add (V.sub p0 hp0l) hstm he hb3 hnew).imp fun p x h => ?_
                  rcases h with h | ⟨h1, h2, h3⟩
                  · exact .inl (.inl h)
                  · rcases tk h2 with z | z
                    · exact .inl (.inr ⟨h1, z, h3⟩)
                    · exact .inr ⟨h1, z⟩
              · have S10 := S9.fw (Fw.skip f9.c e10)
                have F10 : Fw Hs6 H6 Hs8 H10 := F9.trans (Fw.skip f9.c e10)
                refine y_next ?_
                refine hN6 _ Hs8 _ F10.m ⟨late6, _, _, _, _, _, rfl, n9, ⟨ys6, e10 _ _ hys9, dps_ex F10.b dys6⟩, S10, xH6.trans F10.a, xs6.trans F10.b, ?_⟩
                refine (X6.skip (p0 := p0) (s0 := st) fun hi => ?_).imp fun p x h => ?_
                · rw [hi, Bool.true_and, Bool.not_eq_false', decide_eq_true_iff] at hb2
                  exact hb2
                · rcases h with h | ⟨h1, h2, h3⟩
                  · exact .inl (.inl h)
                  · rcases tk h2 with z | z
                    · exact .inl (.inr ⟨h1, z, h3⟩)
                    · exact .inr ⟨h1, z⟩
            · have F8 : Fw Hs6 H6 Hs7 H8 := f7.trans (Fw.skip f7.c e8)
              refine y_next ?_
              refine hN6 _ Hs7 _ F8.m ⟨late6, _, _, _, _, _, rfl, n7, ⟨ys6, e8 _ _ hys7, dps_ex F8.b dys6⟩, S6.fw F8, xH6.trans F8.a, xs6.trans F8.b, X6.imp fun p x h => ?_⟩
              rcases h with h | ⟨h1, h2, h3⟩
              · exact .inl h
              · rcases tk h2 with z | z
                · exact .inr ⟨h1, z, h3⟩
                · subst z
                  exact absurd h3 (of_decide_eq_false hb)
          · obtain ⟨late6, w9, w10, w11, w12, w13, rfl, n6, ⟨ys6, hys6, dys6⟩, S6, xH6, xs6, X6⟩ := iv
            refine hN4 _ Hs6 _ (f5.m.trans fm6) ⟨late6, _, _, _, _, _, _, _, rfl, n6, ⟨ys6, hys6, dys6⟩, S6, xH6, xs4.trans (f5.b.trans xs6), X6.imp fun p x h => ?_⟩
            obtain ⟨h1, h2, h3⟩ := h
            rw [List.take_add_one, hp0] at h1
            rcases List.mem_append.mp h1 with z | z
            · exact .inl ⟨z, h2, h3⟩
            · have z2 : p = p0 := by simpa using z
              subst z2
              exact .inr ⟨rfl, by rw [List.take_length]; exact h2, h3⟩
      · obtain ⟨late, y7, y8, y9, y10, y11, y12, y13, rfl, n4, ⟨ys, hys, dys⟩, S4, xH4, xs4, X4⟩ := iv
        dsimp only
        have V2 := X4.fin V fun p hp st hst he => ⟨by rw [List.length_map, List.take_length]; exact hp, hst, he⟩
        have few2 := rch_few O V2.nd V2.rch
        have few1 := rch_few O V.nd V.rch
        rw [List.length_append] at few2
        refine y_asg (P := fun v _ => v = .ref la) (Hs := H4) (evp_of (ev_var (i := 6) (v := .ref la) rfl) fun _ _ => rfl) (Ex.refl _) fun v9 Hs9 H9 f9 hv9 => ?_
        subst hv9
        dsimp only
        have k9 : Ex H4 H9 := f9.a
        have c9 : Ex (upd Hs4 la (.lst ys)) H9 := fun y u hy => by
          by_cases q : y = la
          · subst q; rw [upd_same] at hy; rw [← hy]; exact k9 _ _ hys
          · rw [upd_ne q] at hy; exact k9 _ _ (fm4.c y u hy)
        have S9 : VSt K P w d (F ++ late) (upd Hs4 la (.lst ys)) H9 := by
          obtain ⟨xs, a1, a2, a3⟩ := S4.x
          exact ⟨by rw [upd_ne dla]; exact S4.n, xs, k9 _ _ a1, a2.ex (Ex.new n4), a3⟩
        refine hN _ (upd Hs4 la (.lst ys)) H9 ⟨fun y hy => fresh_back (e3) (fm4.a y (fresh_back k9 hy)), xs4.trans (Ex.new n4), c9, fun y o hy hn => ?_⟩ trivial ⟨2 * (500 - (F ++ late).length) + if late = [] then 0 else 1, ?_, la, F ++ late, late, _, _, _, _, _, _, _, _, rfl, xH4.trans k9, xHs.trans (xs4.trans (Ex.new n4)), S9, .lst (sq_of upd_same) (dps_ex (Ex.new n4) dys), V2, rfl⟩
        · have yl : y ≠ la := ne_of_none (e2 _ _ hy) hla0
          rw [upd_ne yl]
          exact fm4.d y o (e3 _ _ hy) hn
        · rw [if_neg el, List.length_append]
          by_cases c : late = []
          · subst c
            simp
          · have := List.length_pos_iff.mpr c
            rw [if_neg c]
            omega
end
end K02
set_option Elab.async false
set_option linter.all false
set_option maxRecDepth 100000
set_option maxHeartbeats 2000000
/-! ### dict(list(d.items()) + [(k, v)]), t + u of tuples -/
namespace K02
open PySem PySem.Spec PyProof.Rows L2 Evl
section
variable {P : Program} {w : World} {K : PySem.W.Frag} {mg : Str → Option Value} {base : Heap} {σ : L2.St} {H : Hp} {ta tb tc te : TE}
theorem evd_catT {ds es : List PyData} (ha : EvD K ta σ H (.tuple ds)) (hb : EvD K tb σ H (.tuple es)) (hz : ds.length + es.length ≤ 100000) : EvD K (tOp (rCatA K) ta tb) σ H (.tuple (ds ++ es)) := fun Hs H1 a b Q q =>
  ha Hs H1 a b _ fun v Hs2 H2 f p => hb Hs2 H2 (a.trans f.b) f.c _ fun u Hs3 H3 f3 p3 => by
    obtain ⟨x, xs, rfl, hx, dx⟩ := dp_tup p
    obtain ⟨y, ys, rfl, hy, dy⟩ := dp_tup p3
    have ff := f.trans f3
    have lx := dps_len dx
    have ly := dps_len dy
    refine ⟨x, y, xs, ys, rfl, rfl, ex_t (f3.b.trans f3.c) hx, ex_t f3.c hy, sz_of (by omega), fun e => ?_, fun _ e => ?_, fun _ _ p hp => ?_⟩
    · subst e
      cases dx
      exact q _ _ _ ff (.tup hy dy)
    · subst e
      cases dy
      rw [List.append_nil] at q
      exact q _ _ _ ff (.tup (ex_t f3.b hx) (dps_ex f3.b dx))
    · have g := ff.trans (Fw.new (p := p) (o := .tup (xs ++ ys)) ff.c hp)
      exact q _ _ _ g (.tup (st_of upd_same) (dps_ex (Fw.new ff.c hp).b (dps_app (dps_ex f3.b dx) dy)))
theorem pairs_dp {K : PySem.W.Frag} {Hs H' : Hp} {kvs : List (Key × V)} {ents : List (Int × PyData)} (h : EntD K Hs kvs ents) : ∀ {ts : List Addr}, Paired (fun (t : Addr) (q : Key × V) => H' t = some (.tup [kV q.1, q.2])) ts kvs → Ex Hs H' → DpAll K H' (ts.map V.ref) (ents.map entT) := by
  induction h with
  | nil =>
    intro ts hp e
    cases hp
    exact .nil
  | @cons kv en l m r t ih =>
    intro ts hp e
    cases hp with
    | cons g u =>
      refine .cons (.tup (st_of g) (.cons ?_ (.cons (dp_ex e r.2) .nil))) (ih u e)
      rw [r.1]
      exact .int _
/-- list(d.items()) -/
theorem evd_listItems {ents : List (Int × PyData)} (h : EvP te σ H (DictX K ents)) : EvD K (LiI.tListItems te) σ H (.list (ents.map entT)) := fun Hs H1 a b Q q =>
  h Hs H1 a b _ fun v Hs2 H2 f p => by
    obtain ⟨d, kvs, rfl, hd, he⟩ := p
    refine ⟨d, kvs, rfl, f.c _ _ hd, fun H' p ts ex hp ht hpt hl hpr => ?_⟩
    have g := grow_fw f.c ex
    refine q _ _ _ (f.trans g) (.lst (sq_of (by rw [grow_new hp]; exact hl)) ?_)
    have hpr2 : Paired (fun (t : Addr) (q : Key × V) => grow Hs2 H2 H' t = some (.tup [kV q.1, q.2])) ts kvs := by
      refine paired_mk (Paired.length hpr) fun i t kv h1 h2 => ?_
      obtain ⟨y, e1, e2⟩ := LiI.paired_get hpr h1
      rw [h2] at e1
      cases e1
      rw [grow_new (ht t (List.mem_of_getElem? h1))]
      exact e2
    exact pairs_dp he hpr2 g.b
def mergeE (ents : List (Int × PyData)) : List (Int × PyData) := ents.foldl (fun acc e => putA acc e.1 e.2) []
theorem entD_merge {H : Hp} : ∀ {kvs : List (Key × V)} {ents : List (Int × PyData)}, EntD K H kvs ents → ∀ {acc : List (Key × V)} {acd : List (Int × PyData)}, EntD K H acc acd → EntD K H (mergeK acc kvs) (ents.foldl (fun acc e => putA acc e.1 e.2) acd) := by
  intro kvs ents h
  induction h with
  | nil => exact fun g => g
  | @cons kv en l m r t ih =>
    intro acc acd g
    unfold mergeK at ih ⊢
    rw [List.foldl_cons, List.foldl_cons]
    refine ih ?_
    rw [r.1]
    exact entD_put g en.1 r.2
/-- the pairs that a list of tuples stands for -/
theorem dps_pairsK {H : Hp} : ∀ {xs : List V} {ents : List (Int × PyData)}, DpAll K H xs (ents.map entT) → ∃ (ps : List Addr) (kvs : List (Key × V)), xs = ps.map V.ref ∧ Paired (fun p kv => SqT K H p [kV kv.1, kv.2]) ps kvs ∧ EntD K H kvs ents
  | _, [], h => by
    cases h
    exact ⟨[], [], rfl, .nil, .nil⟩
  | _, e :: ents, h => by
    have h' : DpAll K H _ (entT e :: ents.map entT) := h
    cases h' with
    | cons h1 h2 =>
      obtain ⟨p, zs, rfl, hz, hzs⟩ := dp_tup h1
      obtain ⟨x, y, rfl, px, py⟩ := dps2 hzs
      have := dp_int px
      subst this
      obtain ⟨ps, kvs, e1, e2, e3⟩ := dps_pairsK h2
      exact ⟨p :: ps, (.inl e.1, y) :: kvs, by rw [e1]; rfl, .cons hz e2, .cons ⟨rfl, py⟩ e3⟩
theorem paired_imp {α β : Type} {R S : α → β → Prop} (h : ∀ a b, R a b → S a b) : ∀ {l : List α} {m : List β}, Paired R l m → Paired S l m
  | _, _, .nil => .nil
  | _, _, .cons r t => .cons (h _ _ r) (paired_imp h t)
/-- dict(pairs) -/
theorem evp_dictOf {ents : List (Int × PyData)} (h : EvD K te σ H (.list (ents.map entT))) :
    EvP (tCB (fun xs H Q => ∃ (a : Addr) (ps : List Addr) (kvs : List (Key × V)), xs = [.ref a] ∧ SqL K H a (ps.map V.ref) ∧ Paired (fun p kv => SqT K H p [kV kv.1, kv.2]) ps kvs ∧ ∀ p, H p = none → Q (.ref p) (upd H p (.dK (mergeK [] kvs)))) (tCons te tNil)) σ H (DictX K (mergeE ents)) := fun Hs H1 a b Q q =>
  h Hs H1 a b _ fun v Hs2 H2 f p => by
    obtain ⟨l, xs, rfl, hs, ht⟩ := dp_lst p
    obtain ⟨ps, kvs, rfl, e2, e3⟩ := dps_pairsK ht
    refine ⟨l, ps, kvs, rfl, ex_l f.c hs, paired_imp (fun _ _ h => ex_t f.c h) e2, fun p hp => ?_⟩
    exact q _ _ _ (f.trans (Fw.new f.c hp)) ⟨p, _, rfl, upd_same, entD_ex (Fw.new f.c hp).b (entD_merge e3 .nil)⟩
end
theorem merge_id : ∀ (l acc : List (Int × PyData)), ((acc ++ l).map (·.1)).Nodup → l.foldl (fun acc e => putA acc e.1 e.2) acc = acc ++ l
  | [], acc, _ => by simp
  | e :: l, acc, h => by
    rw [List.foldl_cons]
    have hne : (acc.any fun x => decide (x.1 = e.1)) = false := by
      rw [List.any_eq_false]
      intro x hx q
      rw [List.map_append, List.map_cons, List.nodup_append] at h
      exact h.2.2 x.1 (List.mem_map.mpr ⟨x, hx, rfl⟩) e.1 List.mem_cons_self (of_decide_eq_true q)
    have e1 : putA acc e.1 e.2 = acc ++ [e] := by
      unfold putA
      rw [if_neg (by rw [hne]; decide)]
    rw [e1, merge_id l (acc ++ [e]) (by rw [List.append_assoc]; exact h), List.append_assoc]
    rfl
theorem mergeE_put {cs : List (Int × List Vec)} (hn : (cs.map (·.1)).Nodup) (g : Int) (l : List Vec) : mergeE (costsD cs ++ [(g, .list (l.map dV))]) = costsD (putA cs g l) := by
  unfold mergeE
  have h : ((([] : List (Int × PyData)) ++ costsD cs).map (·.1)).Nodup := by
    unfold costsD
    rw [List.nil_append, List.map_map]
    exact hn
  rw [List.foldl_append, merge_id (costsD cs) [] h]
  exact (putA_map (fun l : List Vec => PyData.list (l.map dV)) cs g l).symm
theorem heldC_put (cs : List (Int × List Vec)) (g s : Int) (l : List Vec) : heldC (putA cs g l) s = if s = g then l else heldC cs s := by
  unfold heldC
  rw [getA_put]
  split <;> rfl
theorem putA_nodup {cs : List (Int × List Vec)} (hn : (cs.map (·.1)).Nodup) (g : Int) (l : List Vec) : ((putA cs g l).map (·.1)).Nodup := by
  rw [putA_keys]
  exact ddOn_nodup hn
theorem putA_mem {cs : List (Int × List Vec)} {g : Int} {l : List Vec} {e : Int × List Vec} (h : e ∈ putA cs g l) : e = (g, l) ∨ e ∈ cs := by
  unfold putA at h
  split at h
  · obtain ⟨x, hx, q⟩ := List.mem_map.mp h
    by_cases c : x.1 = g
    · rw [if_pos c] at q
      left
      rw [← q, c]
    · rw [if_neg c] at q
      right
      rw [← q]
      exact hx
  · rcases List.mem_append.mp h with z | z
    · exact .inr z
    · exact .inl (List.mem_singleton.mp z)
theorem putA_len (cs : List (Int × List Vec)) (g : Int) (l : List Vec) : (putA cs g l).length ≤ cs.length + 1 := by
  unfold putA
  split
  · rw [List.length_map]; omega
  · rw [List.length_append]; exact Nat.le_refl _
end K02
set_option Elab.async false
set_option linter.all false
set_option maxRecDepth 100000
set_option maxHeartbeats 1000000
/-! ### the plain law: what the program answers is what the law asks -/
namespace K02
open PySem PySem.Spec PyProof.Rows L2 Evl
section
variable {M : Mac} {W : WS} {gs : List Int}
theorem endOf_mem : ∀ (s : Int) (r : List Stp), endOf s r ∈ s :: r.map (·.go)
  | s, [] => List.mem_cons_self
  | s, x :: r => List.mem_cons_of_mem _ (endOf_mem x.go r)
theorem anti_at : ∀ {l : List Vec}, (l.Pairwise fun a b => below a b = false ∧ below b a = false) → ∀ {a b : Vec}, a ∈ l → b ∈ l → a ≠ b → below a b = false
  | [], _, _, _, h, _, _ => by cases h
  | x :: l, h, a, b, ha, hb, hne => by
    obtain ⟨h1, h2⟩ := List.pairwise_cons.mp h
    rcases List.mem_cons.mp ha with e | ha
    · rcases List.mem_cons.mp hb with e2 | hb
      · exact absurd (e.trans e2.symm) hne
      · rw [e]
        exact (h1 b hb).1
    · rcases List.mem_cons.mp hb with e2 | hb
      · rw [e2]
        exact (h1 a ha).2
      · exact anti_at h2 ha hb hne
theorem mem_heldAll {cs : List (Int × List Vec)} {gs : List Int} {v : Vec} : v ∈ heldAll cs gs ↔ ∃ g ∈ gs, v ∈ heldC cs g := by
  unfold heldAll
  rw [List.mem_flatMap]
theorem heldAll_table (D : WDone M (noLim M) W) (v : Vec) : v ∈ heldAll (tableL W.costs) gs ↔ v ∈ heldAll W.costs gs := by
  rw [mem_heldAll, mem_heldAll]
  exact ⟨fun ⟨g, h1, h2⟩ => ⟨g, h1, (held_table D.inv.nd g v).mp h2⟩, fun ⟨g, h1, h2⟩ => ⟨g, h1, (held_table D.inv.nd g v).mpr h2⟩⟩
theorem held_at {cs : List (Int × List Vec)} {s : Int} {v : Vec} (h : v ∈ heldC cs s) : ∃ l, (s, l) ∈ cs ∧ v ∈ l := by
  unfold heldC at h
  cases g : getA cs s with
  | none => rw [g] at h; cases h
  | some l =>
    rw [g] at h
    exact ⟨l, getA_mem g, h⟩
theorem tab_ok (O : MOk M) (D : WDone M (noLim M) W) : TabOk M (tableL W.costs) := by
  refine ⟨fun e he => ?_, fun e he v hv => ?_, Nat.le_trans (tableL_len _) (Nat.le_trans (D.inv.cle O) (by decide)), fun e he => ?_⟩
  · obtain ⟨l, h1, _, _⟩ := tableL_mem he
    exact D.inv.keys e.1 (List.mem_map.mpr ⟨_, h1, rfl⟩)
  · obtain ⟨l, h1, _, h3⟩ := tableL_mem he
    rw [h3] at hv
    exact (inv_vecs O D.inv h1).1.1 v (((List.mergeSort_perm l vle).mem_iff).mp hv)
  · obtain ⟨l, h1, _, h3⟩ := tableL_mem he
    rw [h3, List.length_mergeSort]
    exact (inv_vecs O D.inv h1).2
theorem tab_true (O : MOk M) (D : WDone M (noLim M) W) : isTab M (tableL W.costs) (noLim M) = true := by
  unfold isTab
  rw [Bool.and_eq_true]
  constructor
  · obtain ⟨u, hu, hb⟩ := done_start D
    exact List.any_eq_true.mpr ⟨u, (held_table D.inv.nd 0 u).mpr hu, hb⟩
  · unfold tabClosed
    refine List.all_eq_true.mpr fun e he => List.all_eq_true.mpr fun st hst => List.all_eq_true.mpr fun v hv => ?_
    obtain ⟨j, hj, hjm⟩ := (tab_ok O D).keys e he
    rw [hj, Int.toNat_natCast] at hst
    obtain ⟨h1, h2⟩ := (O.wst j hjm st).mp hst
    have hv2 : v ∈ W.held st.st := by
      rw [h2, ← hj]
      refine (held_table D.inv.nd e.1 v).mp ?_
      unfold heldC
      rw [getA_of_mem (tableL_nodup D.inv.nd) (k := e.1) (b := e.2) he]
      exact hv
    obtain ⟨u, hu, hb⟩ := done_step O D h1 hv2
    have : ((heldC (tableL W.costs) st.go).any fun o => below o (bump M.kinds v st.ki)) = true := List.any_eq_true.mpr ⟨u, (held_table D.inv.nd st.go u).mpr hu, hb⟩
    rw [this]
    simp
/-- a closed table has something below each run -/
theorem tab_run (O : MOk M) {cs : List (Int × List Vec)} (T : TabOk M cs) (h : isTab M cs (noLim M) = true) : ∀ (r : List Stp), RunOk M 0 r → ∀ k, k ≤ r.length → ∃ o ∈ heldC cs (endOf 0 (r.take k)), below o (fallsOf M.kinds (r.take k)) = true
  | r, hr, 0, _ => by
    unfold isTab at h
    rw [Bool.and_eq_true] at h
    obtain ⟨o, ho, hb⟩ := List.any_eq_true.mp h.1
    rw [List.take_zero, fallsOf_nil]
    exact ⟨o, ho, hb⟩
  | r, hr, k + 1, hk => by
    obtain ⟨o, ho, hb⟩ := tab_run O T h r hr k (by omega)
    have hkl : k < r.length := by omega
    have e1 : r[k]? = some r[k] := List.getElem?_eq_getElem hkl
    obtain ⟨j, hj, hjm, hjw⟩ := runOk_at hr e1
    have et : r.take (k + 1) = r.take k ++ [r[k]] := by rw [List.take_add_one, e1]; rfl
    rw [et, endOf_snoc, fallsOf_snoc]
    have lo := (T.held _).1 o ho
    obtain ⟨l, hl, hol⟩ := held_at ho
    unfold isTab tabClosed at h
    rw [Bool.and_eq_true] at h
    have h2 := List.all_eq_true.mp (List.all_eq_true.mp (List.all_eq_true.mp h.2 _ hl) r[k] (by
      show r[k] ∈ M.ways (endOf 0 (r.take k)).toNat
      rw [hj, Int.toNat_natCast]
      exact hjw)) o hol
    unfold noLim at h2
    rw [belowO_none, Bool.true_and, Bool.not_not] at h2
    obtain ⟨o2, ho2, hb2⟩ := List.any_eq_true.mp h2
    have lo2 := (T.held _).1 o2 ho2
    have lf := fallsOf_len M.kinds (r.take k)
    exact ⟨o2, ho2, below_trans (by rw [lo2, bump_len _ lo]) (by rw [bump_len _ lo, bump_len _ lf]) hb2 (bump_mono _ lo lf hb)⟩
def raise1 (v : Vec) : Vec := (v.headD 0 + 1) :: v.tail
theorem raise_up : ∀ v : Vec, v ≠ [] → below v (raise1 v) = true
  | [], h => absurd rfl h
  | a :: v, _ => by
    have := below_refl v
    unfold below at this ⊢
    unfold raise1
    rw [List.headD_cons, List.tail_cons, List.zip_cons_cons, List.all_cons, this, Bool.and_true]
    exact decide_eq_true (by show a ≤ a + 1; omega)
theorem raise_no : ∀ v : Vec, v ≠ [] → below (raise1 v) v = false
  | [], h => absurd rfl h
  | a :: v, _ => by
    unfold below raise1
    rw [List.headD_cons, List.tail_cons, List.zip_cons_cons, List.all_cons]
    have : decide (a + 1 ≤ a) = false := decide_eq_false (by omega)
    rw [this]
    rfl
theorem raise_len {v : Vec} (h : v ≠ []) : (raise1 v).length = v.length := by
  cases v with
  | nil => exact absurd rfl h
  | cons a v => simp [raise1]
def raised (cs : List (Int × List Vec)) (g : Int) : List (Int × List Vec) := putA cs g ((heldC cs g).map raise1)
theorem raised_ok (T : TabOk M cs) (kn : M.kinds ≠ []) {g : Int} (hg : ∃ i : Nat, g = (i : Int) ∧ i < M.many) (hc : cs.length ≤ 999) : TabOk M (raised cs g) := by
  have kl : 0 < M.kinds.length := List.length_pos_iff.mpr kn
  have hh := T.held g
  refine ⟨fun e he => ?_, fun e he v hv => ?_, Nat.le_trans (putA_len _ _ _) (by omega), fun e he => ?_⟩
  · rcases putA_mem he with z | z
    · rw [z]; exact hg
    · exact T.keys e z
  · rcases putA_mem he with z | z
    · rw [z] at hv
      obtain ⟨u, hu, rfl⟩ := List.mem_map.mp hv
      have lu := hh.1 u hu
      rw [raise_len (by intro q; rw [q] at lu; simp at lu; omega)]
      exact lu
    · exact T.vecs e z v hv
  · rcases putA_mem he with z | z
    · rw [z, List.length_map]
      exact hh.2
    · exact T.small e z
theorem raised_no (O : MOk M) (D : WDone M (noLim M) W) (kn : M.kinds ≠ []) {g : Int} (h0 : g ≠ 0) (hne : heldC (tableL W.costs) g ≠ []) : isTab M (raised (tableL W.costs) g) (noLim M) = false := by
  cases q : isTab M (raised (tableL W.costs) g) (noLim M) with
  | false => rfl
  | true =>
    exfalso
    have kl : 0 < M.kinds.length := List.length_pos_iff.mpr kn
    obtain ⟨v, hv⟩ := List.exists_mem_of_ne_nil _ hne
    have hv2 := (held_table D.inv.nd g v).mp hv
    have ne : ∀ {u : Vec}, u ∈ W.held g → u ≠ [] := fun {u} hu z => by
      have := D.inv.lens _ _ (D.inv.hr g u hu)
      rw [z] at this
      simp at this
      omega
    obtain ⟨r, c⟩ := D.inv.came g v (D.inv.hr g v hv2)
    have gin : ∃ i : Nat, g = (i : Int) ∧ i < M.many := by
      refine c.ins g ?_
      have h1 := endOf_mem 0 r
      rw [c.fin] at h1
      exact h1
    have T := raised_ok (tab_ok O D) kn gin (Nat.le_trans (tableL_len _) (Nat.le_trans (D.inv.cle O) (by decide)))
    obtain ⟨o, ho, hb⟩ := tab_run O T q r c.run r.length (Nat.le_refl _)
    rw [List.take_length, c.fin, c.falls] at *
    unfold raised at ho
    rw [heldC_put, if_pos rfl] at ho
    obtain ⟨u, hu, rfl⟩ := List.mem_map.mp ho
    have hu2 := (held_table D.inv.nd g u).mp hu
    have lu := D.inv.lens _ _ (D.inv.hr g u hu2)
    have lv := D.inv.lens _ _ (D.inv.hr g v hv2)
    have huv := below_trans (raise_len (ne hu2)).symm (by rw [raise_len (ne hu2), lu, lv]) (raise_up u (ne hu2)) hb
    by_cases e : u = v
    · subst e
      rw [raise_no u (ne hu2)] at hb
      cases hb
    · rw [anti_at (D.inv.anti g) hu2 hv2 e] at huv
      cases huv
/-! the answers -/
theorem due_eq (O : MOk M) (D : WDone M (noLim M) W) {F : List (Int × Vec)} (hF : ∀ p, p ∈ F ↔ Rch M p.1 p.2) : leastOf ((F.filter fun p => decide (p.1 ∈ gs)).map (·.2)) = LFvecs W gs := by
  refine leastOf_eq (n := M.kinds.length) (fun v hv => ?_) (fun v hv => ?_) fun v hv => ?_
  · obtain ⟨p, hp, rfl⟩ := List.mem_map.mp hv
    exact rch_len ((hF p).mp (List.mem_filter.mp hp).1)
  · obtain ⟨g, h1, h2⟩ := mem_heldAll.mp hv
    exact List.mem_map.mpr ⟨(g, v), List.mem_filter.mpr ⟨(hF (g, v)).mpr (held_rch O D h2), decide_eq_true h1⟩, rfl⟩
  · obtain ⟨p, hp, rfl⟩ := List.mem_map.mp hv
    obtain ⟨h1, h2⟩ := List.mem_filter.mp hp
    obtain ⟨u, hu, hb⟩ := rch_held O D ((hF p).mp h1)
    exact ⟨u, mem_heldAll.mpr ⟨p.1, of_decide_eq_true h2, hu⟩, hb⟩
theorem us_least (D : WDone M (noLim M) W) : LeastL M.kinds.length (LFvecs W gs) := leastOf_least (heldAll_one D.inv gs)
theorem us_mem {v : Vec} (h : v ∈ LFvecs W gs) : ∃ g ∈ gs, v ∈ W.held g := mem_heldAll.mp ((mem_least _ v).mp h).1
theorem us_under (D : WDone M (noLim M) W) {v : Vec} (h : v ∈ heldAll (tableL W.costs) gs) : ∃ u ∈ LFvecs W gs, below u v = true := least_under (heldAll_one D.inv gs) ((heldAll_table D v).mp h)
theorem pick_ok (O : MOk M) (D : WDone M (noLim M) W) {v : Vec} (h : v ∈ LFvecs W gs) : RunOk M 0 (pickRun M W gs v) ∧ (pickRun M W gs v).length ≤ 1000 ∧ endOf 0 (pickRun M W gs v) ∈ gs ∧ fallsOf M.kinds (pickRun M W gs v) = v := by
  obtain ⟨i, s, rr, q, e⟩ := pickRun_ok (run_exists O D (leastOf_mem h))
  rw [e]
  exact ⟨q.run, by rw [List.length_reverse]; exact q.short, by rw [q.fin]; exact List.mem_of_getElem? q.at_, q.falls⟩
theorem rs_len : (LFruns M W gs).length = (LFvecs W gs).length := by
  unfold LFruns
  rw [List.length_map]
theorem zip_ok (O : MOk M) (D : WDone M (noLim M) W) : ∀ l : List Vec, (∀ v ∈ l, v ∈ LFvecs W gs) → ((l.zip (l.map (pickRun M W gs))).all fun p => !(!decide (endOf 0 p.2 ∈ gs) || decide (fallsOf M.kinds p.2 ≠ p.1))) = true
  | [], _ => rfl
  | v :: l, h => by
    obtain ⟨_, _, h1, h2⟩ := pick_ok O D (h v List.mem_cons_self)
    rw [List.map_cons, List.zip_cons_cons, List.all_cons, zip_ok O D l fun v hv => h v (List.mem_cons_of_mem _ hv)]
    simp [h1, h2]
theorem last_ok (D : WDone M (noLim M) W) : ((heldAll (tableL W.costs) gs).all fun o => (LFvecs W gs).any fun v => below v o) = true :=
  List.all_eq_true.mpr fun o ho => by
    obtain ⟨u, h1, h2⟩ := us_under D ho
    exact List.any_eq_true.mpr ⟨u, h1, h2⟩
theorem show_true (O : MOk M) (D : WDone M (noLim M) W) : showsB M gs (LFvecs W gs) (LFruns M W gs) (tableL W.costs) = true := by
  unfold showsB
  rw [(us_least D).self, rs_len, tab_true O D, last_ok D]
  have := zip_ok (gs := gs) O D (LFvecs W gs) fun _ h => h
  unfold LFruns
  rw [this]
  simp
theorem show_drop (O : MOk M) (D : WDone M (noLim M) W) {i : Nat} (hi : i < (LFvecs W gs).length) (rs : List (List Stp)) : showsB M gs ((LFvecs W gs).take i ++ (LFvecs W gs).drop (i + 1)) rs (tableL W.costs) = false := by
  have U := us_least (gs := gs) D
  have hv : (LFvecs W gs)[i] ∈ LFvecs W gs := List.getElem_mem hi
  have hh : (LFvecs W gs)[i] ∈ heldAll (tableL W.costs) gs := (heldAll_table D _).mpr ((mem_least _ _).mp hv).1
  have key : ((heldAll (tableL W.costs) gs).all fun o => ((LFvecs W gs).take i ++ (LFvecs W gs).drop (i + 1)).any fun v => below v o) = false := by
    rw [List.all_eq_false]
    refine ⟨_, hh, ?_⟩
    rw [Bool.not_eq_true, List.any_eq_false]
    intro u hu hb
    have nd := U.nd
    have split : LFvecs W gs = (LFvecs W gs).take i ++ (LFvecs W gs)[i] :: (LFvecs W gs).drop (i + 1) := by
      rw [← List.drop_eq_getElem_cons hi, List.take_append_drop]
    have hne : u ≠ (LFvecs W gs)[i] := fun e => by
      rw [split, List.nodup_append] at nd
      rcases List.mem_append.mp hu with z | z
      · exact nd.2.2 u z _ List.mem_cons_self e
      · rw [e] at z
        exact (List.nodup_cons.mp nd.2.1).1 z
    have hm : u ∈ LFvecs W gs := by
      rw [split]
      rcases List.mem_append.mp hu with z | z
      · exact List.mem_append_left _ z
      · exact List.mem_append_right _ (List.mem_cons_of_mem _ z)
    rw [U.anti u hm _ hv hne] at hb
    cases hb
  unfold showsB
  rw [key, Bool.and_false]
theorem show_nil (O : MOk M) (D : WDone M (noLim M) W) {i : Nat} (hi : i < (LFvecs W gs).length) : showsB M gs (LFvecs W gs) ((LFruns M W gs).take i ++ [[]] ++ (LFruns M W gs).drop (i + 1)) (tableL W.costs) = (decide ((LFvecs W gs)[i] = zeroV M.kinds) && decide ((0 : Int) ∈ gs)) := by
  have split : LFvecs W gs = (LFvecs W gs).take i ++ (LFvecs W gs)[i] :: (LFvecs W gs).drop (i + 1) := by
    rw [← List.drop_eq_getElem_cons hi, List.take_append_drop]
  have z1 := zip_ok (gs := gs) O D ((LFvecs W gs).take i) fun v hv => List.mem_of_mem_take hv
  have z2 := zip_ok (gs := gs) O D ((LFvecs W gs).drop (i + 1)) fun v hv => List.mem_of_mem_drop hv
  have ez : (LFvecs W gs).zip ((LFruns M W gs).take i ++ [[]] ++ (LFruns M W gs).drop (i + 1)) = (((LFvecs W gs).take i).zip (((LFvecs W gs).take i).map (pickRun M W gs))) ++ ((LFvecs W gs)[i], []) :: (((LFvecs W gs).drop (i + 1)).zip (((LFvecs W gs).drop (i + 1)).map (pickRun M W gs))) := by
    have e1 : (LFruns M W gs).take i = ((LFvecs W gs).take i).map (pickRun M W gs) := by unfold LFruns; rw [List.map_take]
    have e2 : (LFruns M W gs).drop (i + 1) = ((LFvecs W gs).drop (i + 1)).map (pickRun M W gs) := by unfold LFruns; rw [List.map_drop]
    rw [e1, e2, List.append_assoc]
    conv => lhs; arg 1; rw [split]
    rw [List.zip_append (by rw [List.length_map])]
    rfl
  have len : ((LFruns M W gs).take i ++ [[]] ++ (LFruns M W gs).drop (i + 1)).length = (LFvecs W gs).length := by
    rw [List.length_append, List.length_append, List.length_take, List.length_drop, rs_len, List.length_singleton]
    omega
  unfold showsB
  rw [(us_least D).self, len, tab_true O D, last_ok D, ez, List.all_append, List.all_cons, z1, z2]
  have e0 : endOf 0 ([] : List Stp) = 0 := rfl
  rw [show ((LFvecs W gs)[i], ([] : List Stp)).2 = [] from rfl, e0, fallsOf_nil]
  by_cases h1 : (LFvecs W gs)[i] = zeroV M.kinds
  · by_cases h2 : (0 : Int) ∈ gs <;> simp [h1, h2]
  · have h3 : ¬ zeroV M.kinds = (LFvecs W gs)[i] := fun e => h1 e.symm
    by_cases h2 : (0 : Int) ∈ gs <;> simp [h1, h2, h3]
theorem show_less (us : List Vec) (rs : List (List Stp)) (cs : List (Int × List Vec)) : showsB M gs us rs (putA cs 0 []) = false := by
  have : isTab M (putA cs 0 []) (noLim M) = false := by
    unfold isTab
    rw [heldC_put, if_pos rfl]
    rfl
  unfold showsB
  rw [this, Bool.and_false, Bool.false_and]
theorem show_raise (O : MOk M) (D : WDone M (noLim M) W) (kn : M.kinds ≠ []) {g : Int} (h0 : g ≠ 0) (hne : heldC (tableL W.costs) g ≠ []) (us : List Vec) (rs : List (List Stp)) : showsB M gs us rs (raised (tableL W.costs) g) = false := by
  unfold showsB
  rw [raised_no O D kn h0 hne, Bool.and_false, Bool.false_and]
/-! allowances -/
theorem inL_mono {a b : Int} (h : a ≤ b) : ∀ {l : Option Int}, inL b l = true → inL a l = true
  | none, _ => rfl
  | some c, q => by
    have := of_decide_eq_true (show decide (b ≤ c) = true from q)
    exact decide_eq_true (by omega)
theorem belowO_mono : ∀ {u v : Vec} {l : List (Option Int)}, u.length = v.length → below u v = true → belowO v l = true → belowO u l = true
  | [], _, _, _, _, _ => by simp [belowO]
  | _ :: _, [], _, h, _, _ => by simp at h
  | a :: u, b :: v, [], _, _, _ => by simp [belowO]
  | a :: u, b :: v, c :: l, h, h1, h2 => by
    unfold below belowO at *
    rw [List.zip_cons_cons, List.all_cons, Bool.and_eq_true] at *
    exact ⟨inL_mono (of_decide_eq_true h1.1) h2.1, belowO_mono (u := u) (v := v) (by simpa using h) h1.2 h2.2⟩
theorem holds_eq (O : MOk M) (D : WDone M (noLim M) W) {lims : List (Option Int)} {W' : WS} (D' : WDone M lims W') : decide (LFvecs W' gs = []) = !((LFvecs W gs).any fun v => belowO v lims) := by
  have one : OneLen M.kinds.length (heldAll W'.costs gs) := heldAll_one D'.inv gs
  have e1 : LFvecs W' gs = [] ↔ heldAll W'.costs gs = [] := least_nil one
  by_cases c : (LFvecs W gs).any (fun v => belowO v lims) = true
  · rw [c]
    obtain ⟨v, hv, hb⟩ := List.any_eq_true.mp c
    obtain ⟨s, hs, hvs⟩ := us_mem hv
    obtain ⟨r, cm⟩ := D.inv.came s v (D.inv.hr s v hvs)
    have lv : v.length = M.kinds.length := D.inv.lens _ _ (D.inv.hr s v hvs)
    have pre : ∀ k, k ≤ r.length → belowO (fallsOf M.kinds (r.take k)) lims = true := fun k hk => by
      refine belowO_mono (v := v) (by rw [fallsOf_len, lv]) ?_ hb
      have h1 := fallsOf_mono M.kinds (r.take k) (r.drop k)
      rw [List.take_append_drop, cm.falls] at h1
      exact h1
    have go : ∀ k, k ≤ r.length → ∃ u ∈ W'.held (endOf 0 (r.take k)), below u (fallsOf M.kinds (r.take k)) = true := fun k => by
      induction k with
      | zero =>
        intro _
        have h0 := pre 0 (Nat.zero_le _)
        rw [List.take_zero, fallsOf_nil] at *
        exact D'.start h0
      | succ k ih =>
        intro hk
        obtain ⟨u, hu, hb1⟩ := ih (by omega)
        have hkl : k < r.length := by omega
        have e1 : r[k]? = some r[k] := List.getElem?_eq_getElem hkl
        obtain ⟨j, hj, hjm, hjw⟩ := runOk_at cm.run e1
        have et : r.take (k + 1) = r.take k ++ [r[k]] := by rw [List.take_add_one, e1]; rfl
        have lu : u.length = M.kinds.length := D'.inv.lens _ _ (D'.inv.hr _ u hu)
        have lf := fallsOf_len M.kinds (r.take k)
        have hp := pre (k + 1) hk
        rw [et, fallsOf_snoc] at hp
        have bm := bump_mono r[k].ki lu lf hb1
        have hlim := belowO_mono (by rw [bump_len _ lu, bump_len _ lf]) bm hp
        obtain ⟨i, hi⟩ := List.mem_iff_getElem?.mp (D'.inv.hr _ u hu)
        obtain ⟨t, ht, hbt⟩ := D'.inv.closed i (List.getElem?_eq_some_iff.mp hi).1 _ u hi hu j hj r[k] hjw hlim
        have lt : t.length = M.kinds.length := D'.inv.lens _ _ (D'.inv.hr _ t ht)
        rw [et, endOf_snoc, fallsOf_snoc]
        exact ⟨t, ht, below_trans (by rw [lt, bump_len _ lu]) (by rw [bump_len _ lu, bump_len _ lf]) hbt bm⟩
    obtain ⟨u, hu, _⟩ := go r.length (Nat.le_refl _)
    rw [List.take_length, cm.fin] at hu
    have : LFvecs W' gs ≠ [] := fun z => by
      have h3 : u ∈ heldAll W'.costs gs := mem_heldAll.mpr ⟨s, hs, hu⟩
      rw [e1.mp z] at h3
      cases h3
    simp [this]
  · rw [Bool.not_eq_true] at c
    rw [c]
    refine decide_eq_true (e1.mpr ?_)
    refine List.eq_nil_iff_forall_not_mem.mpr fun v hv => ?_
    obtain ⟨s, hs, hvs⟩ := mem_heldAll.mp hv
    have hr := D'.inv.hr s v hvs
    obtain ⟨r, cm⟩ := D'.inv.came s v hr
    have rc := rch_run O r cm.run (Nat.le_of_lt (states_few cm)) r.length (Nat.le_refl _)
    rw [List.take_length, cm.fin, cm.falls] at rc
    obtain ⟨u, hu, hb⟩ := rch_held O D rc
    obtain ⟨m, hm, hmb⟩ := least_under (heldAll_one D.inv gs) (mem_heldAll.mpr ⟨s, hs, hu⟩)
    have lv : v.length = M.kinds.length := D'.inv.lens _ _ hr
    have lu : u.length = M.kinds.length := D.inv.lens _ _ (D.inv.hr _ u hu)
    have lm := (us_least (gs := gs) D).one m hm
    have := belowO_mono (by rw [lm, lv]) (below_trans (by rw [lm, lu]) (by rw [lu, lv]) hmb hb) (D'.inv.lim s v hr)
    rw [List.any_eq_false] at c
    exact c m hm this
end
/-! the law's states -/
theorem asc_zip : ∀ l : List Int, l.Pairwise (· < ·) → ((l.map PyData.int).zip ((l.map PyData.int).drop 1)).all (fun p => match p.1, p.2 with | .int i, .int j => decide (i < j) | _, _ => false) = true
  | [], _ => rfl
  | [a], _ => rfl
  | a :: b :: l, h => by
    obtain ⟨h1, h2⟩ := List.pairwise_cons.mp h
    have ih := asc_zip (b :: l) h2
    have hab := h1 b List.mem_cons_self
    simp only [List.map_cons, List.drop_succ_cons, List.drop_zero, List.zip_cons_cons, List.all_cons, Bool.and_eq_true] at ih ⊢
    exact ⟨decide_eq_true hab, ih⟩
theorem some_ok (s : List Int) {n : Nat} (M : Mac) (hM : M.many = n) (hn : n ≤ 4) : okGoals M (someL s n) ∧ (someL s n).length ≤ 4 ∧ ∀ g ∈ someL s n, ∃ i : Nat, g = (i : Int) ∧ i < n := by
  have hm : ∀ g ∈ someL s n, ∃ i : Nat, g = (i : Int) ∧ i < n := fun g hg => by
    unfold someL at hg
    obtain ⟨i, hi, rfl⟩ := List.mem_map.mp hg
    exact ⟨i, rfl, List.mem_range.mp (List.mem_filter.mp hi).1⟩
  have hl : (someL s n).length ≤ n := by
    unfold someL
    rw [List.length_map]
    refine Nat.le_trans (List.length_filter_le _ _) ?_
    rw [List.length_range]
    exact Nat.le_refl _
  refine ⟨⟨?_, by omega⟩, by omega, hm⟩
  unfold okStates
  rw [Bool.and_eq_true]
  constructor
  · refine List.all_eq_true.mpr fun d hd => ?_
    obtain ⟨g, hg, rfl⟩ := List.mem_map.mp hd
    obtain ⟨i, rfl, hi⟩ := hm g hg
    unfold numIn
    rw [hM]
    simp
    omega
  · refine asc_zip _ ?_
    unfold someL
    refine List.pairwise_map.mpr (List.Pairwise.filter _ (List.Pairwise.imp (fun h => ?_) List.pairwise_lt_range))
    omega
end K02
set_option Elab.async false
set_option linter.all false
set_option maxRecDepth 100000
set_option maxHeartbeats 2000000
/-! ### the law's _law_raised_right; Least(..).shows(..) -/
namespace K02
open PySem PySem.Spec PyProof.Rows L2 Evl
theorem heldAll_le {M : Mac} {cs : List (Int × List Vec)} (T : TabOk M cs) (gs : List Int) : (heldAll cs gs).length ≤ 1000 * gs.length := by
  unfold heldAll
  induction gs with
  | nil => simp
  | cons g gs ih =>
    have := (T.held g).2
    rw [List.flatMap_cons, List.length_append, List.length_cons]
    omega
/-- evidence that may be asked -/
structure AskOk (M : Mac) (gs : List Int) (us : List Vec) (rs : List (List Stp)) (cs : List (Int × List Vec)) : Prop where
  gl : gs.length ≤ 4
  go : okGoals M gs
  tab : TabOk M cs
  nd : (cs.map (·.1)).Nodup
  ul : us.length ≤ 5000
  one : OneLen M.kinds.length us
  rl : rs.length ≤ 5000
  run : ∀ r ∈ rs, RunOk M 0 r ∧ r.length ≤ 1000
section
variable {P : Program} {w : World} {K : PySem.W.Frag} {mg : Str → Option Value} {base : Heap} {σ : L2.St} {H : Hp} {ta tb tc te : TE}
theorem ev_shows {to tm tg : TE} {E : XK} {M : Mac} {gs : List Int} {us : List Vec} {rs : List (List Stp)} {cs : List (Int × List Vec)} (O : MOk M) (A : AskOk M gs us rs cs) (ho : EvP to σ H (LeastAt K us rs cs)) (hm : EvP tm σ H (MacAt K M)) (hg : EvD K tg σ H (.tuple (gs.map .int))) :
    Ev (tMeth (He.ga K "Least") "shows" (spB K (rShows K)) [] E to (tCons tm (tCons tg tNil))) σ H (.bl (showsB M gs us rs cs)) := by
  have hl := heldAll_le A.tab gs
  have := A.gl
  refine ev_of (evp_meth (PO := LeastAt K us rs cs) (A := fun vs H2 => ∃ x y, vs = [x, y] ∧ MacAt K M x H2 ∧ Dp K H2 y (.tuple (gs.map .int))) (R := fun u _ => u = .bl (showsB M gs us rs cs)) ho (fun _ _ _ e h => LeastAt.ex e h) (fun v Hs h => by
      obtain ⟨a, dx, c, v', r, rfl, h2, _⟩ := h
      exact ⟨a, dx, _, rfl, h2, rfl⟩) (eap2 hm (fun _ _ _ e h => MacAt.ex e h) hg) fun v ws Hs H1 e h1 h2 Q q => ?_) fun _ _ _ h => h
  obtain ⟨x, y, rfl, hx, hy⟩ := h2
  exact ⟨Hs, _, e, ⟨v, x, y, M, gs, us, rs, cs, rfl, h1, hx, O, hy, A.go, A.tab, A.ul, A.one, A.rl, A.run, by omega, rfl⟩, fun H2 e2 => q _ Hs H2 (Fw.skip e e2) rfl⟩
theorem evp_leastA {E : XK} {M : Mac} {gs : List Int} {tv tr : Bool} {us : List Vec} {rs : List (List Stp)} {cs : List (Int × List Vec)} (A : AskOk M gs us rs cs) (h1 : EvD K ta σ H (dSeq tv (us.map dV))) (h2 : EvD K tb σ H (dSeq tr (rs.map dRun))) (h3 : EvP tc σ H (DictX K (costsD cs))) :
    EvP (tMake (He.ga K "Least") (spInit (He.ga K "Least") (rLeastI K)) [] E (tCons ta (tCons tb (tCons tc tNil)))) σ H (LeastAt K us rs cs) := evp_least h1 h2 h3 A.nd A.ul A.rl A.tab.few A.tab.small fun r hr => (A.run r hr).2
/-- dict(list(costs.items()) + [(g, more)]) -/
theorem evp_costs2 {cs : List (Int × List Vec)} {g : Int} {l : List Vec} {tg tm : TE} (hn : (cs.map (·.1)).Nodup) (hz : cs.length ≤ 1000) (hc : EvP tc σ H (DictX K (costsD cs))) (hg : Ev tg σ H (.int g)) (hm : EvD K tm σ H (.list (l.map dV))) :
    EvP (tCB (fun xs H Q => ∃ (a : Addr) (ps : List Addr) (kvs : List (Key × V)), xs = [.ref a] ∧ SqL K H a (ps.map V.ref) ∧ Paired (fun p kv => SqT K H p [kV kv.1, kv.2]) ps kvs ∧ ∀ p, H p = none → Q (.ref p) (upd H p (.dK (mergeK [] kvs))))
      (tCons (tOp (rCatL K) (LiI.tListItems tc) (tLst (tCons (tTup (tCons tg (tCons tm tNil))) tNil))) tNil)) σ H (DictX K (costsD (putA cs g l))) := by
  have h1 := evd_catL (evd_listItems hc) (evd_lst (K := K) (ead_cons (evd_tup (K := K) (ead_cons (evd_int hg) (ead_cons hm ead_nil)) (by show 2 ≤ 100000; decide)) ead_nil) (by show 1 ≤ 100000; decide)) (by
    unfold costsD
    simp
    omega)
  have e : (costsD cs).map entT ++ [PyData.tuple [.int g, .list (l.map dV)]] = (costsD cs ++ [(g, PyData.list (l.map dV))]).map entT := by
    rw [List.map_append]
    rfl
  rw [e] at h1
  have h2 := evp_dictOf h1
  rw [mergeE_put hn] at h2
  exact h2
def rRaised (K : PySem.W.Frag) : List V → Hp → Bool → Prop := fun vs Hs b => ∃ (m g f : V) (M : Mac) (gs : List Int) (W : WS), vs = [m, g, f] ∧ MacAt K M m Hs ∧ MOk M ∧ Dp K Hs g (.tuple (gs.map .int)) ∧ okGoals M gs ∧ gs.length ≤ 4 ∧ (∀ g ∈ gs, ∃ i : Nat, g = (i : Int) ∧ i < M.many) ∧ WDone M (noLim M) W ∧
  LeastAt K (LFvecs W gs) (LFruns M W gs) (tableL W.costs) f Hs ∧ M.kinds ≠ [] ∧ b = true
abbrev NRA : List Str := ["_law_machine_here", "_law_goals", "_law_found", "_law_goal", "_law_more", "_law_vector"]
theorem scRA : FnScope NRA ["_law_machine_here", "_law_goals", "_law_found"] (defScope lRaised) := ⟨rfl, rfl, rfl, by decide +kernel, rfl, by decide +kernel, by decide +kernel⟩
abbrev tRaise1 (K : PySem.W.Frag) : TE := tOp (rCatA K) (tTup (tCons (tOp (rI0 fun i j => .int (i + j)) (tOp (rIxT K) (tVar 5) (tC (.int 0))) (tC (.int 1))) tNil)) (tSl (rSlA K) (tVar 5) (tPart (tC (.int 1))) tNoPart)
theorem ask_of {M : Mac} {gs : List Int} {W : WS} (O : MOk M) (D : WDone M (noLim M) W) (hgo : okGoals M gs) (hgl : gs.length ≤ 4) : AskOk M gs (LFvecs W gs) (LFruns M W gs) (tableL W.costs) := by
  have hal := heldAll_len O D.inv gs
  have lv : (LFvecs W gs).length ≤ 1024 := Nat.le_trans (leastOf_len _) (by omega)
  refine ⟨hgl, hgo, tab_ok O D, tableL_nodup D.inv.nd, by omega, (us_least D).one, by rw [rs_len]; omega, fun r hr => ?_⟩
  unfold LFruns at hr
  obtain ⟨v, hv, rfl⟩ := List.mem_map.mp hr
  obtain ⟨h1, h2, _⟩ := pick_ok O D hv
  exact ⟨h1, h2⟩
theorem ok_lRaised (T : G K mg) (S : SupF P K) : Ok P w K mg base CX0 5 (He.ga K "_law_raised_right") ["_law_machine_here", "_law_goals", "_law_found"] (spB K (rRaised K)) := by
  obtain ⟨fd, F⟩ := T.fun0 37
  obtain ⟨fdI, GI, bI, kI⟩ := ok_leastI (P := P) (w := w) (base := base) T S
  obtain ⟨fdS, GS, bS, kS⟩ := ok_shows (P := P) (w := w) (base := base) T
  refine ok_of F scRA (fun vs H Q E h => ?_) (fun _ _ _ _ _ _ us hl => match us, hl with | [_, _, _], _ => rfl) fun cdv A outer s H vs Q E hr h => ?_
  · obtain ⟨_, _, _, ⟨_, _, _, _, _, _, rfl, _⟩, _⟩ := h
    rfl
  · obtain ⟨Hs, b, eH, ⟨m, g, f, M, gs, W, rfl, hm, O, hg, hgo, hgl, hgs, D, hf, kn, rfl⟩, kQ⟩ := h
    refine ⟨_, pss_cons (ps_for PassesOwn.never rfl (pi_tup (pv 1)) (pg_name (i := 3) scRA.nd rfl (Or.inl rfl))
        (pss_one (ps_if (PW.pt (pw_and (pt_cmpR op_ne (pv 3) pe_int (nomark _)) (pw_and1 (pt_cmpR (op_neD hr.units) (pe_dget2 (room_1 hr) (pe_fld (pv 2) rfl) (pv 3) (pe_lst pa_nil) ⟨rfl, rfl, rfl, rfl⟩) (pe_lst pa_nil) (nomark _)))))
          (pss_cons (ps_setLc (i := 4) (own := [("_law_vector", 5)]) (g := gName 5) (tt := tYes) (te := tRaise1 K) rfl scRA.nd rfl rfl rfl (pi_list (pe_dget (room_1 hr) (pe_fld (pv 2) rfl) (pv 3) (fun _ _ => rfl))) (blkOk_by (N := NRA) (sc := defScope lRaised) (by decide +kernel))
              (fun _ _ _ _ _ => pg_name (i := 5) scRA.nd rfl (Or.inl rfl)) (fun _ _ _ _ _ => pts_nil)
              (fun _ _ _ _ _ => pe_op op_catA (pe_tup (pa_cons (pe_op op_add (pe_ix ix_tup (pv 5) pe_int (fun _ _ => rfl)) pe_int) pa_nil)) (pe_slice sl_tupA (pv 5) (po_some pe_int) po_none)))
          (pss_one (ps_if (pt_val (pe_meth (pe_make (T.make "Least") GI (hr.mono (by decide)) rfl (T.gl "Least") bI .nil pass0 (pa_cons (pe_fld (pv 2) rfl) (pa_cons (pe_fld (pv 2) rfl) (pa_cons (pe_callTy (call_dictP rfl) rfl (T.fr "dict") (by decide +kernel) (pa_cons (pe_op op_catL (LiI.pe_listItems rfl (pe_fld (pv 2) rfl) rfl (T.fr "list") (by decide +kernel)) (pe_lst (pa_cons (pe_tup (pa_cons (pv 3) (pa_cons (pv 4) pa_nil))) pa_nil))) pa_nil)) pa_nil)))) (T.cl "Least") (T.me "Least" "shows") GS hr bS .nil pass0 (pa_cons (pv 0) (pa_cons (pv 1) pa_nil)))) (pss_one (ps_ret pe_bl)) pss_nil))) pss_nil)))
      (pss_one (ps_ret pe_bl)), ?_⟩
    have few := O.few
    have AK := ask_of O D hgo hgl
    have kl : 0 < M.kinds.length := List.length_pos_iff.mpr kn
    have f0 : ∀ {σ : L2.St} {H0 : Hp}, Ex Hs H0 → σ[2]? = some (some f) → EvP (tVar 2) σ H0 (LeastAt K (LFvecs W gs) (LFruns M W gs) (tableL W.costs)) := fun {σ H0} e hs => evp_of (ev_var hs) fun _ e' => hf.ex (e.trans e')
    have m0 : ∀ {σ : L2.St} {H0 : Hp}, Ex Hs H0 → σ[0]? = some (some m) → EvP (tVar 0) σ H0 (MacAt K M) := fun {σ H0} e hs => evp_of (ev_var hs) fun _ e' => hm.ex (e.trans e')
    refine y_for (wk_tupA gs .int (j := 3) (evd_var (i := 1) (σ := start NRA [m, g, f]) (v := g) rfl hg)) eH
      (fun i σ' Hs' H' => Ex Hs Hs' ∧ Ex H H' ∧ ∃ a b c, σ' = [some m, some g, some f, a, b, c])
      (fun Hs3 H3 f3 => ⟨f3.b, f3.a, none, none, none, rfl⟩) (fun i σ' Hs' H' hi fm iv σ5 Hs5 H5 f5 hS N hN => ?_) fun σ' Hs' H' fm iv => ?_
    · obtain ⟨ex, eh, a3, a4, a5, rfl⟩ := iv
      obtain ⟨u, ⟨q, hq, hp⟩, rfl⟩ := hS
      have := dp_int hp
      subst this
      have e5 := ex.trans f5.b
      have hqm := List.mem_of_getElem? hq
      have gin := hgs q hqm
      have TT := AK.tab.held q
      have tst := et_and (et_test (ev_neI (H := Hs5) (ev_var (i := 3) (σ := [some m, some g, some f, some (.int q), a4, a5]) (v := .int q) rfl) (ev_c (v := .int 0)))) fun _ =>
        et_test (ev_neD (K := K) (evd_held (cs := tableL W.costs) (s := q) (evp_at (evp_lcosts T (f0 (σ := [some m, some g, some f, some (.int q), a4, a5]) e5 rfl))) (ev_var (i := 3) (v := .int q) rfl)) (evd_lst (ds := []) ead_nil (by decide)) (shaped_Vs _) (by rfl))
      rw [eqv_Vs_nil] at tst
      refine y_if tst f5.c (fun hb H6 e6 => ?_) fun hb H6 e6 => ?_
      · rw [Bool.and_eq_true, decide_eq_true_iff, Bool.not_eq_true', decide_eq_false_iff_not] at hb
        obtain ⟨q0, qne⟩ := hb
        have f6 : Fw Hs' H' Hs5 H6 := f5.trans (Fw.skip f5.c e6)
        have cost : EvD K (tDGet (tFld K (tVar 2) "costs") (tVar 3)) [some m, some g, some f, some (.int q), a4, a5] Hs5 (.list ((heldC (tableL W.costs) q).map dV)) := by
          refine evd_dget (evp_at (evp_lcosts T (f0 e5 rfl))) (ev_var (i := 3) (v := .int q) rfl) ?_
          rw [entL_getA]
          unfold costsD
          rw [getA_mapv (fun l : List Vec => PyData.list (l.map dV))]
          unfold heldC at qne ⊢
          cases gg : getA (tableL W.costs) q with
          | none => rw [gg] at qne; exact absurd rfl qne
          | some l => rfl
        have key := evd_lcM (K := K) (H := Hs5) (vs := [5]) (te := tRaise1 K) (heldC (tableL W.costs) q) (fun v => dV (raise1 v)) (wk_listA (heldC (tableL W.costs) q) dV (j := 5) cost) (by omega) fun i v σ2 H' hi e hS => by
          obtain ⟨u, ⟨a1, e1, p1⟩, rfl⟩ := hS
          rw [hi] at e1
          cases e1
          refine ⟨rfl, ?_⟩
          have lv := TT.1 v (List.mem_of_getElem? hi)
          cases v with
          | nil => simp at lv; omega
          | cons x v =>
            have vv : EvD K (tVar 5) [some m, some g, some f, some (.int q), a4, some u] H' (.tuple ((x :: v).map .int)) := evd_var (i := 5) (v := u) rfl p1
            have r1 := evd_catT (evd_tup (K := K) (ead_cons (evd_int (ev_add (ev_int (K := K) (evd_ixT (i := 0) (d := .int x) vv (ev_c (v := .int 0)) rfl)) (ev_c (v := .int 1)))) ead_nil) (by show 1 ≤ 100000; decide)) (evd_slT vv (eo_some (ev_c (v := .int 1))) eo_none) (by
              have : (cutD ((x :: v).map PyData.int) (some 1) none) = ((x :: v).map PyData.int).drop 1 := cut_from _ 1
              rw [this]
              simp at lv ⊢
              omega)
            have e2 : (cutD ((x :: v).map PyData.int) (some 1) none) = v.map PyData.int := cut_from _ 1
            rw [e2] at r1
            exact r1
        refine y_asg key f6.c fun x4 Hs7 H7 f7 h4 => ?_
        dsimp only
        have f7' := f6.trans f7
        have e7 := e5.trans f7.b
        have A2 : AskOk M gs (LFvecs W gs) (LFruns M W gs) (raised (tableL W.costs) q) := ⟨hgl, hgo, raised_ok AK.tab kn gin (Nat.le_trans (tableL_len _) (Nat.le_trans (D.inv.cle O) (by decide))), putA_nodup AK.nd _ _, AK.ul, AK.one, AK.rl, AK.run⟩
        have em : (heldC (tableL W.costs) q).map (fun v => dV (raise1 v)) = ((heldC (tableL W.costs) q).map raise1).map dV := by rw [List.map_map]; rfl
        rw [em] at h4
        have dct := evp_costs2 (K := K) (σ := [some m, some g, some f, some (.int q), some x4, a5]) (H := Hs7) (cs := tableL W.costs) (g := q) AK.nd AK.tab.few (evp_lcosts T (f0 e7 rfl)) (ev_var (i := 3) (v := .int q) rfl) (evd_var (i := 4) (v := x4) rfl h4)
        have lst := evp_leastA (K := K) (E := E0) (tv := false) (tr := false) A2 (evd_lvecs T (f0 (σ := [some m, some g, some f, some (.int q), some x4, a5]) e7 rfl)) (evd_lruns T (f0 e7 rfl)) dct
        have shw := ev_shows (K := K) (E := E0) O A2 lst (m0 e7 rfl) (evd_var (i := 1) (v := g) rfl (dp_ex e7 hg))
        rw [show_raise O D kn q0 qne] at shw
        refine y_if (et_B shw) f7'.c (fun hb => by cases hb) fun _ H8 e8 => ?_
        refine y_next ?_
        have f8 := f7'.trans (Fw.skip f7'.c e8)
        exact hN _ Hs7 _ f8.m ⟨ex.trans f8.b, eh.trans f8.a, _, _, _, rfl⟩
      · refine y_next ?_
        have f6 : Fw Hs' H' Hs5 H6 := f5.trans (Fw.skip f5.c e6)
        exact hN _ Hs5 _ f6.m ⟨ex.trans f6.b, eh.trans f6.a, _, _, _, rfl⟩
    · obtain ⟨ex, eh, a3, a4, a5, rfl⟩ := iv
      dsimp only
      exact y_ret (evd_c (K := K) (.bl true)) fm.c fun v Hs9 H9 f9 hv => by
        rw [dp_bl hv]
        exact kQ _ (eh.trans f9.a)
end
end K02
set_option Elab.async false
set_option linter.all false
set_option maxRecDepth 100000
set_option maxHeartbeats 2000000
/-! ### [.. for a, b in d if ..], d with keys that are pairs -/
namespace K02
open PySem PySem.Spec PyProof.Rows L2 Evl
def Exn (H H' : Hp) : Prop := ∀ a o, H a = some o → H' a = some o ∨ ∃ φ, o = .ext φ ∨ ∃ od, o = .frz od (.ext φ)
theorem exn_l {K : PySem.W.Frag} {H H' : Hp} {a : Addr} {xs : List V} (e : Exn H H') (h : SqL K H a xs) : SqL K H' a xs := by
  rcases h with (h | ⟨o, h⟩) | h
  · rcases e _ _ h with q | ⟨_, q | ⟨_, q⟩⟩
    · exact .inl (.inl q)
    · cases q
    · cases q
  · rcases e _ _ h with q | ⟨_, q | ⟨_, q⟩⟩
    · exact .inl (.inr ⟨o, q⟩)
    · cases q
    · cases q
  · exact .inr h
theorem exn_t {K : PySem.W.Frag} {H H' : Hp} {a : Addr} {xs : List V} (e : Exn H H') (h : SqT K H a xs) : SqT K H' a xs := by
  rcases h with (h | ⟨o, h⟩) | h
  · rcases e _ _ h with q | ⟨_, q | ⟨_, q⟩⟩
    · exact .inl (.inl q)
    · cases q
    · cases q
  · rcases e _ _ h with q | ⟨_, q | ⟨_, q⟩⟩
    · exact .inl (.inr ⟨o, q⟩)
    · cases q
    · cases q
  · exact .inr h
mutual
theorem dp_exn {K : PySem.W.Frag} {H H' : Hp} (e : Exn H H') : ∀ {v : V} {d : PyData}, Dp K H v d → Dp K H' v d
  | _, _, .non => .non
  | _, _, .bl b => .bl b
  | _, _, .int i => .int i
  | _, _, .str x => .str x
  | _, _, .lst h t => .lst (exn_l e h) (dps_exn e t)
  | _, _, .tup h t => .tup (exn_t e h) (dps_exn e t)
theorem dps_exn {K : PySem.W.Frag} {H H' : Hp} (e : Exn H H') : ∀ {vs : List V} {ds : List PyData}, DpAll K H vs ds → DpAll K H' vs ds
  | _, _, .nil => .nil
  | _, _, .cons h t => .cons (dp_exn e h) (dps_exn e t)
end
theorem exn_upd {P : Program} {w : World} {H : Hp} {d : Addr} {xs : NX} {o : HO} (h : H d = some (NdO P w d xs) ∨ ∃ od, H d = some (.frz od (NdO P w d xs))) : Exn H (upd H d o) := fun a u ha => by
  by_cases q : a = d
  · subst q
    right
    rcases h with h | ⟨od, h⟩
    · rw [h] at ha
      exact ⟨_, .inl (Option.some.inj ha).symm⟩
    · rw [h] at ha
      exact ⟨_, .inr ⟨od, (Option.some.inj ha).symm⟩⟩
  · left
    rw [upd_ne q]
    exact ha
theorem NdK.exn {K : PySem.W.Frag} {H H' : Hp} {xs : NX} (e : Exn H H') (x : NdK K H xs) : NdK K H' xs := fun y hy => ⟨dp_exn e (x y hy).1, (x y hy).2⟩
section
variable {P : Program} {w : World} {K : PySem.W.Frag} {mg : Str → Option Value} {base : Heap} {σ : L2.St} {H : Hp} {te td : TE} {dd : PyData}
theorem evd_lockN {d : Addr} {xs : NX} (hd : H d = some (NdO P w d xs)) (h : ∀ od, EvD K te σ (upd H d (.frz od (NdO P w d xs))) dd) : EvD K (tLockE te) σ H dd := fun Hs H1 a b Q q => by
  have h1 : Hs d = some (NdO P w d xs) := a _ _ hd
  have h2 : H1 d = some (NdO P w d xs) := b _ _ h1
  refine ⟨d, NdO P w d xs, h2, trivial, fun od => h od (upd Hs d (.frz od (NdO P w d xs))) (upd H1 d (.frz od (NdO P w d xs))) (ex_frz a) (ex_frz b) _ fun v Hs2 H2 f p => ?_⟩
  have fd : Hs2 d = some (.frz od (NdO P w d xs)) := f.b _ _ upd_same
  refine ⟨f.a _ _ upd_same, q v (upd Hs2 d (NdO P w d xs)) (upd H2 d (NdO P w d xs)) ⟨ex_back h2 f.a, ex_back h1 f.b, ex_frz f.c, fun x o hx n => ?_⟩ (dp_exn (exn_upd (.inr ⟨od, fd⟩)) p)⟩
  have ne : x ≠ d := fun z => by rw [z, h1] at n; cases n
  rw [upd_ne ne]
  exact f.d x o (by rw [upd_ne ne]; exact hx) (by rw [upd_ne ne]; exact n)
def FrzN (K : PySem.W.Frag) (P : Program) (w : World) (F : List (Int × Vec)) (v : V) (H : Hp) : Prop := ∃ d od xs, v = .ref d ∧ H d = some (.frz od (NdO P w d xs)) ∧ NdK K H xs ∧ xs.map (·.1) = F.map kPr
theorem FrzN.ex {F : List (Int × Vec)} {v : V} {H H' : Hp} (e : Ex H H') (h : FrzN K P w F v H) : FrzN K P w F v H' := by
  obtain ⟨d, od, xs, h1, h2, h3, h4⟩ := h
  exact ⟨d, od, xs, h1, e _ _ h2, h3.ex e, h4⟩
theorem wk_keysN {F : List (Int × Vec)} {j k : Nat} (h : EvP td σ H (FrzN K P w F)) : Wk (iKeysN P w td) (g2 K j k) σ H F.length (S2 j k fun i v u H2 => ∃ p, F[i]? = some p ∧ v = .int p.1 ∧ Dp K H2 u (dV p.2)) := fun Hs H0 a0 b0 R r =>
  h Hs H0 a0 b0 _ fun v Hs1 H1 f hp => by
    obtain ⟨d, od, xs, rfl, h1, h2, h3⟩ := hp
    have hl : xs.length = F.length := VSt.len (K := K) (P := P) (w := w) (d := d) (Hs := Hs) (H := H) h3
    refine ⟨d, od, xs, rfl, f.c _ _ h1, r _ Hs1 H1 f fun Hs' H' e1 e2 => ⟨⟨e2 _ _ (e1 _ _ h1), Nat.le_of_eq hl⟩, fun i hi => ⟨⟨e2 _ _ (e1 _ _ h1), by omega⟩, fun x H'' y => ?_⟩⟩⟩
    obtain ⟨rfl, e, he, rfl⟩ := y
    intro σb Q hQ
    have hk := congrArg (fun l : List NestedKey => l[i]?) h3
    simp only [List.getElem?_map, he] at hk
    cases hF : F[i]? with
    | none => rw [hF] at hk; cases hk
    | some p =>
      rw [hF] at hk
      have hk2 : e.1 = kPr p := Option.some.inj hk
      have hd := (h2 e (List.mem_of_getElem? he)).1
      rw [hk2, kPr_data] at hd
      have hd1 := dp_ex e1 hd
      unfold dPr at hd1
      obtain ⟨T, zs, e0, hz, hzs⟩ := dp_tup hd1
      obtain ⟨x, y, rfl, px, py⟩ := dps2 hzs
      have := dp_int px
      subst this
      rw [e0]
      exact g2_of (ex_t e2 hz) (hQ _ Hs' _ (Fw.refl e2) ⟨_, _, ⟨p, hF, rfl, py⟩, rfl⟩)
/-- [b for a, b in d if a in gs] -/
theorem evd_inKeys {F : List (Int × Vec)} {gs : List Int} {td tg : TE} {j k : Nat} (hF : F.length ≤ 1000) (hd : ∃ d xs, H d = some (NdO P w d xs) ∧ NdK K H xs ∧ xs.map (·.1) = F.map kPr ∧ ∀ H1, Ev td σ H1 (.ref d))
    (hgs : ∀ a b (H2 : Hp), (∀ v d, Dp K H v d → Dp K H2 v d) → EvD K tg (((wipe σ [j, k]).set j (some a)).set k (some b)) H2 (.tuple (gs.map .int)))
    (hw : ∀ a b, wipe (((wipe σ [j, k]).set j (some a)).set k (some b)) [j, k] = wipe σ [j, k]) (hj : ∀ a b, (((wipe σ [j, k]).set j (some a)).set k (some b))[j]? = some (some a)) (hkk : ∀ a b, (((wipe σ [j, k]).set j (some a)).set k (some b))[k]? = some (some b)) :
    EvD K (tLockE (tLc (iKeysN P w td) (g2 K j k) (tTest (tOp (rIn K false) (tVar j) tg)) (tVar k) [j, k])) σ H (.list (((F.filter fun p => decide (p.1 ∈ gs)).map (·.2)).map dV)) := by
  obtain ⟨d, xs, h1, h2, h3, h4⟩ := hd
  refine evd_lockN h1 fun od => ?_
  have ex0 : Exn H (upd H d (.frz od (NdO P w d xs))) := exn_upd (.inl h1)
  have key := evd_lcA (K := K) (σ := σ) (H := upd H d (.frz od (NdO P w d xs))) (vs := [j, k]) (te := tVar k) (tt := tTest (tOp (rIn K false) (tVar j) tg)) F (fun p => decide (p.1 ∈ gs)) (fun p => dV p.2)
    (wk_keysN (K := K) (j := j) (k := k) (evp_of (h4 _) fun H2 e => ⟨d, od, xs, rfl, e _ _ upd_same, (h2.exn ex0).ex e, h3⟩)) (by omega) fun i p σ2 H' hi e hS => by
      obtain ⟨z, u, ⟨p', e1, rfl, pu⟩, rfl⟩ := hS
      rw [hi] at e1
      cases e1
      refine ⟨hw _ _, et_test ?_, fun _ => evd_var (hkk _ _) pu⟩
      have := ev_inTI (K := K) (neg := false) (ev_var (v := .int p.1) (hj _ _)) (hgs (.int p.1) u H' fun v d hd => dp_ex e (dp_exn ex0 hd))
      exact this
  rw [List.map_map]
  exact key
end
end K02
set_option Elab.async false
set_option linter.all false
set_option maxRecDepth 100000
set_option maxHeartbeats 2000000
/-! ### law: what it draws -/
namespace K02
open PySem PySem.Spec PyProof.Rows L2 Evl
def kz0 : List Str := ["", "", "x", "y", "z"]
def kzN (sc : List Int) : Nat := 4 + (drawI sc 400 2).toNat
def kz (sc : List Int) : List Str := kz0.take (kzN sc)
theorem kzN_eq (sc : List Int) : ((kzN sc : Nat) : Int) = 4 + drawI sc 400 2 ∧ 4 ≤ kzN sc ∧ kzN sc ≤ 5 := by
  have := drawI_range sc 400 (many := 2) (by decide)
  unfold kzN
  omega
theorem kz_len (sc : List Int) : 0 < (kz sc).length ∧ (kz sc).length ≤ 10 := by
  have := kzN_eq sc
  unfold kz
  rw [List.length_take]
  show 0 < min (kzN sc) 5 ∧ min (kzN sc) 5 ≤ 10
  omega
theorem kz0_all : ∀ k ∈ kz0, ((k = ("" : Str) ∨ wordB k = true) ∧ k.length ≤ 1000) ∧ PyData.strOk k = true := by
  have h : (kz0.all fun k => ((decide (k = ("" : Str)) || wordB k) && decide (k.length ≤ 1000)) && PyData.strOk k) = true := by decide +kernel
  intro k hk
  have := List.all_eq_true.mp h k hk
  rw [Bool.and_eq_true, Bool.and_eq_true, Bool.or_eq_true, decide_eq_true_iff, decide_eq_true_iff] at this
  exact this
theorem kz0_xyz : ∀ k ∈ kz0, k ≠ ("" : Str) → k ∈ [("x" : Str), "y", "z"] := by
  intro k hk hne
  have : k = "" ∨ k = "" ∨ k = "x" ∨ k = "y" ∨ k = "z" := by
    unfold kz0 at hk
    simpa using hk
  rcases this with e | e | e | e | e
  · exact absurd e hne
  · exact absurd e hne
  · rw [e]; exact List.mem_cons_self
  · rw [e]; exact List.mem_cons_of_mem _ List.mem_cons_self
  · rw [e]; exact List.mem_cons_of_mem _ (List.mem_cons_of_mem _ List.mem_cons_self)
theorem xyz_word : ∀ k ∈ [("x" : Str), "y", "z"], wordB k = true ∧ k.length ≤ 1000 := by
  have h : ([("x" : Str), "y", "z"].all fun k => wordB k && decide (k.length ≤ 1000)) = true := by decide +kernel
  intro k hk
  have := List.all_eq_true.mp h k hk
  rw [Bool.and_eq_true, decide_eq_true_iff] at this
  exact this
theorem kz_mem {sc : List Int} {k : Str} (h : k ∈ kz sc) : k ∈ kz0 := List.mem_of_mem_take h
theorem getD_mem {l : List Str} {i : Nat} : l.getD i "" ∈ l ∨ l.getD i "" = "" := by
  rw [List.getD_eq_getElem?_getD]
  cases g : l[i]? with
  | none => exact .inr rfl
  | some a => exact .inl (List.mem_of_getElem? g)
theorem lm_ki {sc : List Int} {s : Stp} (h : s ∈ lmRaw sc (kz sc)) : s.ki ∈ kz0 ∧ s.se = "" := by
  unfold lmRaw at h
  obtain ⟨i, _, rfl⟩ := List.mem_map.mp h
  refine ⟨?_, rfl⟩
  show (kz sc).getD _ "" ∈ kz0
  rcases getD_mem (l := kz sc) (i := (drawI sc (5 * i + 2 + 1) ((kz sc).length : Int)).toNat) with e | e
  · exact kz_mem e
  · rw [e]
    exact List.mem_cons_self
theorem raw_ok (sc : List Int) : Raw (lmMany sc).toNat (lmRaw sc (kz sc)) := by
  have hm := lmMany_range sc
  have hc := (lmCount_eq sc).2
  refine ⟨by omega, by omega, ?_, fun s hs => ?_⟩
  · unfold lmRaw
    rw [List.length_map, List.length_range]
    omega
  · obtain ⟨k1, k2⟩ := lm_ki hs
    unfold lmRaw at hs
    obtain ⟨i, _, rfl⟩ := List.mem_map.mp hs
    have q := kz0_all _ k1
    refine ⟨?_, ?_, q.1, ?_, ⟨q.2, ?_⟩⟩
    · show ∃ j : Nat, (if (decide ((i : Int) + 1 < lmMany sc) && decide (drawI sc (5 * i + 2) 2 = 0)) = true then (i : Int) else drawI sc (5 * i + 2 + 3) (lmMany sc)) = (j : Int) ∧ j < (lmMany sc).toNat
      split
      · next h =>
        rw [Bool.and_eq_true, decide_eq_true_iff] at h
        exact ⟨i, rfl, by omega⟩
      · have := drawI_range sc (5 * i + 2 + 3) (many := lmMany sc) (by omega)
        exact ⟨(drawI sc (5 * i + 2 + 3) (lmMany sc)).toNat, by omega, by omega⟩
    · have := drawI_range sc (5 * i + 2 + 4) (many := lmMany sc) (by omega)
      exact ⟨(drawI sc (5 * i + 2 + 4) (lmMany sc)).toNat, by show drawI sc (5 * i + 2 + 4) (lmMany sc) = _; omega, by omega⟩
    · rw [k2]
      exact ⟨.inl rfl, by decide +kernel⟩
    · rw [k2]
      decide +kernel
theorem kinds_xyz {sc : List Int} {kinds : List Str} (h : kindsIs (lmRaw sc (kz sc)) kinds) : ∀ k ∈ kinds, k ∈ [("x" : Str), "y", "z"] := fun k hk => by
  obtain ⟨h1, s, hs, h2⟩ := (h.2 k).mp hk
  rw [← h2] at h1 ⊢
  exact kz0_xyz _ (lm_ki hs).1 h1
theorem mac_ok {sc : List Int} {kinds : List Str} (hk : ∀ k ∈ kinds, PyData.strOk k = true) (h : kindsIs (lmRaw sc (kz sc)) kinds) : MOk (macOf (lmMany sc).toNat (lmRaw sc (kz sc)) (raw_ok sc) kinds hk) :=
  mOk_of _ hk h (few_kinds h.1 (kinds_xyz h)) (Nat.le_trans (sortS_len _) (Nat.le_trans (raw_ok sc).few (by decide)))
theorem al_keys (s : List Int) : ∀ l : List (Str × Nat), ((l.flatMap (al1 s)).map (·.1)).Sublist (l.map (·.1))
  | [] => by simp
  | p :: l => by
    have ih := al_keys s l
    rw [List.flatMap_cons, List.map_append, List.map_cons]
    have h1 : ((al1 s p).map (·.1)).Sublist [p.1] := by
      unfold al1
      split
      · exact .refl _
      · split
        · exact .refl _
        · exact List.nil_sublist _
    exact List.Sublist.append h1 ih
theorem al_ok (s : List Int) {kinds : List Str} (nd : kinds.Nodup) (hx : ∀ k ∈ kinds, k ∈ [("x" : Str), "y", "z"]) : AlOk kinds (alOf s kinds) := by
  have e1 : kinds.zipIdx.map (·.1) = kinds := by
    have := List.zipIdx_map_fst 0 kinds
    exact this
  have sub := al_keys s kinds.zipIdx
  rw [e1] at sub
  have mem : ∀ e ∈ alOf s kinds, e.1 ∈ kinds := fun e he => sub.subset (List.mem_map.mpr ⟨e, he, rfl⟩)
  refine ⟨nd.sublist sub, fun e he => xyz_word _ (hx _ (mem e he)), fun e he i hi => ?_, mem, ?_⟩
  · unfold alOf at he
    obtain ⟨p, _, hp⟩ := List.mem_flatMap.mp he
    unfold al1 at hp
    split at hp
    · rw [List.mem_singleton.mp hp] at hi
      have := drawI_range s (320 + p.2) (many := 5) (by decide)
      cases hi
      exact this.1
    · split at hp
      · rw [List.mem_singleton.mp hp] at hi
        cases hi
      · cases hp
  · have h1 := sub.length_le
    have h2 := few_kinds nd hx
    rw [List.length_map] at h1
    have h3 : (alOf s kinds).length ≤ kinds.length := h1
    omega
section
variable {P : Program} {w : World} {K : PySem.W.Frag} {mg : Str → Option Value} {base : Heap} {σ : L2.St} {H : Hp} {ta tb tc te : TE}
/-- Machine(n, raw) -/
theorem evp_machine {E : XK} {n : Nat} {raw : List Stp} (R : Raw n raw) (h1 : Ev ta σ H (.int (n : Int))) (h2 : EvD K tb σ H (.list (raw.map dStp))) :
    EvP (tMake (He.ga K "Machine") (spInit (He.ga K "Machine") (rMachI K)) [] E (tCons ta (tCons tb tNil))) σ H (fun v H2 => ∃ kinds hk, kindsIs raw kinds ∧ MacAt K (macOf n raw R kinds hk) v H2) :=
  (evp_make (R := rMachI K) (RA := fun ws H2 => ∃ x y, ws = [x, y] ∧ x = .int (n : Int) ∧ Dp K H2 y (.list (raw.map dStp))) (Fin := fun fs H2 => ∃ kinds hk, kindsIs raw kinds ∧ MFin K (macOf n raw R kinds hk) fs H2)
    (eap2 (P1 := fun v _ => v = .int (n : Int)) (evp_of h1 fun _ _ => rfl) (fun _ _ _ _ h => h) h2) (fun ws Hs Hs' _ e h => by
      obtain ⟨x, y, rfl, rfl, p2⟩ := h
      exact ⟨y, n, raw, R, rfl, dp_ex e p2, fun fs H2 kinds hk a b => ⟨kinds, hk, a, b⟩⟩) (fun fs H1 H2 e h => by
      obtain ⟨kinds, hk, h0, s, kd, d, kvs, a1, ⟨a2, a3⟩, ⟨a4, a5⟩, a6, a7, a8⟩ := h
      refine ⟨kinds, hk, h0, s, kd, d, kvs, a1, ⟨a2, dp_ex e a3⟩, ⟨a4, dp_ex e a5⟩, a6, ?_, entD_ex e a8⟩
      rcases a7 with a7 | ⟨o, a7⟩
      · exact .inl (e _ _ a7)
      · exact .inr ⟨o, e _ _ a7⟩)).imp fun v H2 _ h => by
      obtain ⟨a, dx, fs, q1, q2, kinds, hk, h0, s, kd, d, kvs, r⟩ := h
      exact ⟨kinds, hk, h0, a, dx, fs, s, kd, d, kvs, q1, q2, r⟩
theorem y_asg2 {Hs : Hp} {D : Ends} {i j : Nat} {a b : PyData} (h : EvD K te σ Hs (.tuple [a, b])) (e : Ex Hs H) (q : ∀ x y Hs1 H1, Fw Hs H Hs1 H1 → Dp K Hs1 x a → Dp K Hs1 y b → D.nx ((σ.set i (some x)).set j (some y)) H1) : tAsg te (g2 K i j) D σ H :=
  h Hs H (Ex.refl _) e _ fun v Hs1 H1 f p => by
    obtain ⟨T, zs, rfl, hz, hzs⟩ := dp_tup p
    obtain ⟨x, y, rfl, p1, p2⟩ := dps2 hzs
    exact g2_of (ex_t f.c hz) (q x y Hs1 H1 f p1 p2)
/-- a, b = x, y by a tuple -/
theorem y_asg2T {Hs : Hp} {D : Ends} {i j : Nat} {P1 P2 : V → Hp → Prop} (h1 : EvP ta σ Hs P1) (m1 : ∀ v H1 H2, Ex H1 H2 → P1 v H1 → P1 v H2) (h2 : EvP tb σ Hs P2) (m2 : ∀ v H1 H2, Ex H1 H2 → P2 v H1 → P2 v H2) (e : Ex Hs H)
    (q : ∀ x y Hs1 H1, Fw Hs H Hs1 H1 → P1 x Hs1 → P2 y Hs1 → D.nx ((σ.set i (some x)).set j (some y)) H1) : tAsg (tTup (tCons ta (tCons tb tNil))) (g2 K i j) D σ H :=
  h1 Hs H (Ex.refl _) e _ fun x Hs1 H1 f1 p1 => h2 Hs1 H1 f1.b f1.c _ fun y Hs2 H2 f2 p2 => ⟨by show 2 ≤ sizeLine; rw [sizeLine_eq]; decide, fun p hp => by
    have f3 := f2.trans (Fw.new (o := .tup [x, y]) f2.c hp)
    exact g2_of (st_of upd_same) (q x y _ _ (f1.trans f3) (m1 _ _ _ f3.b p1) (m2 _ _ _ (Fw.new (o := .tup [x, y]) f2.c hp).b p2))⟩
theorem ev_neB {a b : Bool} (ha : Ev ta σ H (.bl a)) (hb : Ev tb σ H (.bl b)) : Ev (tOp rNe ta tb) σ H (.bl (!decide (a = b))) := by
  refine ev_op ha hb fun H1 e Q q => ⟨rfl, ?_⟩
  have e1 : (!decide (V.bl a = V.bl b)) = !decide (a = b) := by
    cases a <;> cases b <;> rfl
  rw [e1]
  exact q H1 (Ex.refl _)
theorem evd_repI {tn tx : TE} {n : Nat} {i : Int} (hx : Ev tx σ H (.int i)) (hn : Ev tn σ H (.int (n : Int))) (hz : n ≤ 1000) : EvD K (tOp rRep (tLst (tCons tx tNil)) tn) σ H (.list ((List.replicate n i).map .int)) := fun Hs H1 a b Q q =>
  hx H1 (a.trans b) _ fun H0 e0 => ⟨by show 1 ≤ sizeLine; decide, fun p hp => hn _ ((a.trans b).trans (e0.trans (Ex.new hp))) _ fun H2 e2 => ⟨p, n, [.int i], rfl, rfl, e2 p _ upd_same, by omega, by omega, by rw [Int.toNat_natCast, List.length_singleton, Nat.one_mul]; exact sz_of (by omega), fun l hl => by
    have fw : Fw Hs H1 Hs H2 := Fw.skip b (e0.trans ((Ex.new hp).trans e2))
    have e : (List.replicate ((n : Int)).toNat [V.int i]).flatten = (List.replicate n i).map V.int := by
      rw [Int.toNat_natCast, flat_rep1, List.map_replicate]
    rw [e]
    exact q _ _ _ (fw.trans (Fw.new fw.c hl)) (.lst (sq_of upd_same) (dps_ints _))⟩⟩
end
end K02
set_option Elab.async false
set_option linter.all false
set_option maxRecDepth 100000
set_option maxHeartbeats 4000000
/-! ### law -/
namespace K02
open PySem PySem.Spec PyProof.Rows L2 Evl
def spLaw (K : PySem.W.Frag) : Sp := fun vs H Q _ => ∃ (a : Addr) (ns : List Int), vs = [.ref a] ∧ SqL K H a (ns.map V.int) ∧ ns.length ≤ 63 ∧ ∀ H', Q (.bl true) H'
section
variable {P : Program} {w : World} {K : PySem.W.Frag} {mg : Str → Option Value} {base : Heap} {σ : L2.St} {H : Hp} {ta tb tc te : TE}
abbrev NLW : List Str := ["_law_script", "_law_many", "_law_steps", "_law_machine_here", "_law_goals", "_law_kinds", "_law_reached", "_law_due", "_law_found", "_law_vector", "_law_run", "_law_state", "_law_allowances_here", "_law_limits_here", "_law_at", "_law_less", "_law_bad", "_law_kind", "_law_one"]
theorem scLW : FnScope NLW ["_law_script"] (defScope sLaw) := ⟨rfl, rfl, rfl, by decide +kernel, rfl, by decide +kernel, by decide +kernel⟩
theorem shaped_Strs {l : List Str} (h : ∀ k ∈ l, PyData.strOk k = true) : SeqAt.shaped (.list (l.map PyData.str)) = true := by
  have h1 : ∀ l : List Str, (∀ k ∈ l, PyData.strOk k = true) → PyData.canLayAll0 (l.map PyData.str) = true := fun l => by
    induction l with
    | nil => intro _; simp [PyData.canLayAll0]
    | cons a l ih =>
      intro h
      have e := ih fun k hk => h k (List.mem_cons_of_mem _ hk)
      rw [List.map_cons, PyData.canLayAll0, e]
      simp [PyData.canLay0, h a List.mem_cons_self]
  have h2 : ∀ l : List Str, PyData.depthAll (l.map PyData.str) = 0 := fun l => by
    induction l with
    | nil => simp [PyData.depthAll]
    | cons a l ih =>
      rw [List.map_cons, PyData.depthAll, ih]
      simp [PyData.depth]
  unfold SeqAt.shaped
  rw [PyData.canLay0, h1 l h, PyData.depth, h2]
  rfl
theorem eqv_Strs_nil (l : List Str) : PyData.eqv (.list (l.map PyData.str)) (.list []) = decide (l = []) := by
  cases l with
  | nil => simp [PyData.eqv, PyData.eqvAll]
  | cons a l => simp [PyData.eqv, PyData.eqvAll]
theorem less_ok {M : Mac} {cs : List (Int × List Vec)} (O : MOk M) (T : TabOk M cs) (h : cs.length ≤ 999) : TabOk M (putA cs 0 []) := by
  refine ⟨fun e he => ?_, fun e he v hv => ?_, Nat.le_trans (putA_len _ _ _) (by omega), fun e he => ?_⟩
  · rcases putA_mem he with z | z
    · rw [z]; exact ⟨0, rfl, O.pos⟩
    · exact T.keys e z
  · rcases putA_mem he with z | z
    · rw [z] at hv; cases hv
    · exact T.vecs e z v hv
  · rcases putA_mem he with z | z
    · rw [z]; exact Nat.zero_le _
    · exact T.small e z
theorem y_ifK {σ : L2.St} {H : Hp} {t : TT} {tu tw : TS} {D : Ends} {J : L2.St → Hp → Prop} (hJ : ∀ σ H, J σ H → D.nx σ H) (h : ∀ D' : Ends, (∀ σ H, J σ H → D'.nx σ H) → tIfS t tu tw D' σ H) : tIfS t tu tw D σ H := h D hJ
theorem ev_succ {σ : L2.St} {H : Hp} {te : TE} {i : Nat} (h : Ev te σ H (.int (i : Int))) : Ev (tOp (rI0 fun i j => .int (i + j)) te (tC (.int 1))) σ H (.int ((i + 1 : Nat) : Int)) := ev_add h (ev_c (v := .int 1))
/-- xs[:i] + xs[i + 1:] -/
theorem evd_cutOut {K : PySem.W.Frag} {σ : L2.St} {H : Hp} {te ti : TE} {α : Type} {enc : α → PyData} {l : List α} {i : Nat} (h : EvD K te σ H (.list (l.map enc))) (hi : Ev ti σ H (.int (i : Int))) (hz : l.length ≤ 5000) :
    EvD K (tOp (rCatL K) (tSl (rSlL K) te tNoPart (tPart ti)) (tSl (rSlL K) te (tPart (tOp (rI0 fun i j => .int (i + j)) ti (tC (.int 1)))) tNoPart)) σ H (.list ((l.take i ++ l.drop (i + 1)).map enc)) := by
  have h1 := evd_slL h eo_none (eo_some hi)
  have h2 := evd_slL h (eo_some (ev_succ hi)) eo_none
  rw [cut_to] at h1
  rw [cut_from] at h2
  have h3 := evd_catL h1 h2 (by rw [List.length_take, List.length_drop, List.length_map]; omega)
  rw [← List.map_take, ← List.map_drop, ← List.map_append] at h3
  exact h3
/-- xs[:i] + [x] + xs[i + 1:] -/
theorem evd_cutIn {K : PySem.W.Frag} {σ : L2.St} {H : Hp} {te ti tx : TE} {α : Type} {enc : α → PyData} {l : List α} {x : α} {i : Nat} (h : EvD K te σ H (.list (l.map enc))) (hi : Ev ti σ H (.int (i : Int))) (hx : EvD K tx σ H (enc x)) (hz : l.length ≤ 5000) :
    EvD K (tOp (rCatL K) (tOp (rCatL K) (tSl (rSlL K) te tNoPart (tPart ti)) (tLst (tCons tx tNil))) (tSl (rSlL K) te (tPart (tOp (rI0 fun i j => .int (i + j)) ti (tC (.int 1)))) tNoPart)) σ H (.list ((l.take i ++ [x] ++ l.drop (i + 1)).map enc)) := by
  have h1 := evd_slL h eo_none (eo_some hi)
  have h2 := evd_slL h (eo_some (ev_succ hi)) eo_none
  rw [cut_to] at h1
  rw [cut_from] at h2
  have h3 := evd_catL (evd_catL h1 (evd_lst (K := K) (ead_cons hx ead_nil) (by show 1 ≤ 100000; decide)) (by rw [List.length_take, List.length_map]; simp; omega)) h2 (by rw [List.length_append, List.length_take, List.length_drop, List.length_map]; simp; omega)
  have e : (l.map enc).take i ++ [enc x] ++ (l.map enc).drop (i + 1) = (l.take i ++ [x] ++ l.drop (i + 1)).map enc := by
    rw [List.map_append, List.map_append, List.map_take, List.map_drop]
    rfl
  rw [e] at h3
  exact h3
theorem zip_pick (f : Vec → List Stp) : ∀ {us : List Vec} {i : Nat} {v : Vec} {r : List Stp}, (us.zip (us.map f))[i]? = some (v, r) → v ∈ us ∧ r = f v
  | [], i, v, r, h => by simp at h
  | u :: us, 0, v, r, h => by
    rw [List.map_cons, List.zip_cons_cons, List.getElem?_cons_zero] at h
    cases h
    exact ⟨List.mem_cons_self, rfl⟩
  | u :: us, i + 1, v, r, h => by
    rw [List.map_cons, List.zip_cons_cons, List.getElem?_cons_succ] at h
    obtain ⟨a, b⟩ := zip_pick f h
    exact ⟨List.mem_cons_of_mem _ a, b⟩
theorem okD_of {x q : Str} {st : Stmt} {f : Addr} {fd : FuncData} {N ps : List Str} {k : Nat} {sp : Sp} (F : FunD K x q (defArgs st) (defBody st) (defScope st) [] [] f fd) (S : FnScope N ps (defScope st)) (len : ∀ vs H Q E, sp vs H Q E → vs.length = ps.length)
    (hbody : ∀ (cdv : Value) (A : Around) (outer : List Env) (s : Shared) (H : Hp) (vs : List V) (Q : VK) (E : XK), Room k (A.deeper (envOfC q (defScope st) s.heap.objs.size f cdv)) → sp vs H Q E →
      ∃ t, PSs (cxOf CX0 P w K mg base N q (defScope st) f cdv A outer s H E).nox (defBody st) t ∧ t { nx := fun _ H' => Q .non H', rt := Q } (start N vs) H) : FnOk P w K mg base CX0 (k + 1) f fd ps sp :=
  F.ok S len fun cdv A outer s H vs Q E hr h => by
    obtain ⟨t, h1, h2⟩ := hbody cdv A outer s H vs Q E hr h
    exact ⟨t, h1.nox, h2⟩
theorem ok_law (T : G K mg) (S : SupF P K) {fd : FuncData} (F : FunD K "law" "law" (defArgs sLaw) (defBody sLaw) (defScope sLaw) [] [] (He.ga K "law") fd) : FnOk P w K mg base CX0 7 (He.ga K "law") fd ["_law_script"] (spLaw K) := by
  have LI : OkLI P w K mg base := ok_leastI (P := P) (w := w) (base := base) T S
  obtain ⟨fd0, GM, bM, kM⟩ := ok_lMach (P := P) (w := w) (base := base) T
  obtain ⟨fd1, GD, bD, kD⟩ := ok_draw (P := P) (w := w) (base := base) T
  obtain ⟨fd2, GI, bI, kI⟩ := ok_machI (P := P) (w := w) (base := base) T
  obtain ⟨fd3, GS, bS, kS⟩ := ok_some (P := P) (w := w) (base := base) T
  obtain ⟨fd4, GV, bV, kV⟩ := ok_lVecs (P := P) (w := w) (base := base) T
  obtain ⟨fd5, GL, bL, kL⟩ := ok_lLeast (P := P) (w := w) (base := base) T
  obtain ⟨fd6, GF, bF, kF⟩ := ok_leastFalls (P := P) (w := w) (base := base) T LI
  obtain ⟨fd7, GH, bH, kH⟩ := ok_shows (P := P) (w := w) (base := base) T
  obtain ⟨fd8, GR, bR, kR⟩ := ok_lRun (P := P) (w := w) (base := base) T
  obtain ⟨fd9, GY, bY, kY⟩ := ok_lFalls (P := P) (w := w) (base := base) T
  obtain ⟨fd10, GX, bX, kX⟩ := ok_falls (P := P) (w := w) (base := base) T
  obtain ⟨fd11, GC, bC, kC⟩ := ok_lClosed (P := P) (w := w) (base := base) T
  obtain ⟨fd12, GO, bO, kO⟩ := ok_leastOf (P := P) (w := w) (base := base) T
  obtain ⟨fd13, GB, bB, kB⟩ := ok_lBelow (P := P) (w := w) (base := base) T
  obtain ⟨fd14, GA, bA, kA⟩ := ok_lAllow (P := P) (w := w) (base := base) T
  obtain ⟨fd15, GHo, bHo, kHo⟩ := ok_holds (P := P) (w := w) (base := base) T
  obtain ⟨fd16, GW, bW, kW⟩ := ok_within (P := P) (w := w) (base := base) T
  obtain ⟨fd17, GRa, bRa, kRa⟩ := ok_lRaised (P := P) (w := w) (base := base) T S
  obtain ⟨fd18, GIn, bIn, kIn⟩ := LI
  refine okD_of F scLW (fun vs H Q E h => ?_) fun cdv A outer s H vs Q E hr h => ?_
  · obtain ⟨_, _, rfl, _⟩ := h
    rfl
  · obtain ⟨sa, sc, rfl, hsc, hlen, kQ⟩ := h
    have hm : ∀ j, j ≤ 6 → Room j (A.deeper (envOfC "law" (defScope sLaw) s.heap.objs.size (He.ga K "law") cdv)) := fun j hj => hr.mono hj
    refine ⟨_, pss_cons (ps_asg (pe_call GM (hm _ (by decide)) rfl (T.gl "_law_machine") kM bM .nil pass0 (pa_cons (pv 0) (pa_cons pe_int (pa_cons pe_int (pa_cons
          (pe_slice sl_tupA (pe_tup (pa_cons pe_str (pa_cons pe_str (pa_cons pe_str (pa_cons pe_str (pa_cons pe_str pa_nil)))))) po_none (po_some (pe_op op_add pe_int (pe_call GD (hm _ (by decide)) rfl (T.gl "_law_draw") kD bD .nil pass0 (pa_cons (pv 0) (pa_cons pe_int (pa_cons pe_int pa_nil)))))))
          (pa_cons (pe_tup (pa_cons pe_str pa_nil)) pa_nil)))))) (pg_tup rfl (pgs_cons (pg_name (i := 1) scLW.nd rfl (Or.inl rfl)) (pgs_cons (pg_name (i := 2) scLW.nd rfl (Or.inl rfl)) pgs_nil))))
      (pss_cons (ps_asg (pe_tup (pa_cons (pe_make (T.make "Machine") GI (hm _ (by decide)) rfl (T.gl "Machine") bI .nil pass0 (pa_cons (pv 1) (pa_cons (pv 2) pa_nil))) (pa_cons (pe_call GS (hm _ (by decide)) rfl (T.gl "_law_some") kS bS .nil pass0 (pa_cons (pv 0) (pa_cons pe_int (pa_cons (pv 1) pa_nil)))) pa_nil)))
          (pg_tup rfl (pgs_cons (pg_name (i := 3) scLW.nd rfl (Or.inl rfl)) (pgs_cons (pg_name (i := 4) scLW.nd rfl (Or.inr rfl)) pgs_nil))))
      (pss_cons (ps_set (i := 5) scLW.nd rfl (Or.inl rfl) (pe_fld (pv 3) rfl))
      (pss_cons (ps_set (i := 6) scLW.nd rfl (Or.inl rfl) (pe_call GV (hm _ (by decide)) rfl (T.gl "_law_vectors") kV bV .nil pass0 (pa_cons (pv 1) (pa_cons (pe_fld (pv 3) rfl) (pa_cons (pv 5) (pa_cons (pe_op op_rep (pe_lst (pa_cons (pv 1) pa_nil)) (pe_callB call_len_seq rfl (T.fr "len") (by decide +kernel) (pa_cons (pv 5) pa_nil))) pa_nil))))))
      (pss_cons (ps_set (i := 7) scLW.nd rfl (Or.inl rfl) (pe_call GL (hm _ (by decide)) rfl (T.gl "_law_least") kL bL .nil pass0 (pa_cons
          (pe_lock (pe_lc (own := [("_law_state", 11), ("_law_vector", 9)]) (g := g2 K 11 9) (tt := tTest (tOp (rIn K false) (tVar 11) (tVar 4))) (te := tVar 9) rfl scLW.nd (pi_keysN (pv 6)) (blkOk_by (N := NLW) (sc := defScope sLaw) (by decide +kernel))
            (fun _ _ _ _ _ => pg_tup rfl (pgs_cons (pg_name (i := 11) scLW.nd rfl (Or.inl rfl)) (pgs_cons (pg_name (i := 9) scLW.nd rfl (Or.inl rfl)) pgs_nil)))
            (fun _ _ _ _ _ => pts_one (pt_cmpR op_in_seq (pv 11) (pv 4) rfl)) (fun _ _ _ _ _ => pv 9))) pa_nil)))
      (pss_cons (ps_set (i := 8) scLW.nd rfl (Or.inl rfl) (pe_call GF (hm _ (by decide)) rfl (T.gl "least_falls") kF bF .nil passL (pa_cons (pv 3) (pa_cons (pv 4) pa_nil))))
      (pss_cons (ps_if (PW.pt (pw_or (pt_cmpR (op_neD hr.units) (pe_fld (pv 8) rfl) (pv 7) (nomark _)) (pw_or (pt_not (pt_val (pe_meth (pv 8) (T.cl "Least") (T.me "Least" "shows") GH (hm _ (by decide)) bH .nil pass0 (pa_cons (pv 3) (pa_cons (pv 4) pa_nil)))))
          (pw_or1 (pt_cmpR op_ne (pe_callB call_len_seq rfl (T.fr "len") (by decide +kernel) (pa_cons (pe_fld (pv 8) rfl) pa_nil)) (pe_callB call_len_seq rfl (T.fr "len") (by decide +kernel) (pa_cons (pv 7) pa_nil)) (nomark _)))))) (pss_one (ps_ret pe_bl)) pss_nil)
      (pss_cons (ps_for PassesOwn.never rfl (pi_zipM rfl (T.fr "zip") (pa_cons (pe_fld (pv 8) rfl) (pa_cons (pe_fld (pv 8) rfl) pa_nil))) (pg_tup rfl (pgs_cons (pg_name (i := 9) scLW.nd rfl (Or.inr rfl)) (pgs_cons (pg_name (i := 10) scLW.nd rfl (Or.inl rfl)) pgs_nil)))
        (pss_one (ps_if (PW.pt (pw_or (pt_not (pt_val (pe_call GR (hm _ (by decide)) rfl (T.gl "_law_run_right") kR bR .nil pass0 (pa_cons (pv 3) (pa_cons (pv 10) (pa_cons (pv 4) pa_nil))))))
            (pw_or (pt_cmpR (op_neD hr.units) (pe_call GY (hm _ (by decide)) rfl (T.gl "_law_falls") kY bY .nil pass0 (pa_cons (pv 10) (pa_cons (pv 5) pa_nil))) (pv 9) (nomark _))
            (pw_or1 (pt_cmpR (op_neD hr.units) (pe_call GX (hm _ (by decide)) rfl (T.gl "falls_of") kX bX .nil pass0 (pa_cons (pv 3) (pa_cons (pv 10) pa_nil))) (pv 9) (nomark _)))))) (pss_one (ps_ret pe_bl)) pss_nil)))
      (pss_cons (ps_if (PW.pt (pw_or (pt_not (pt_val (pe_call GC (hm _ (by decide)) rfl (T.gl "_law_closed") kC bC .nil pass0 (pa_cons (pv 3) (pa_cons (pe_fld (pv 8) rfl) (pa_cons (pe_op op_rep (pe_lst (pa_cons pe_non pa_nil)) (pe_callB call_len_seq rfl (T.fr "len") (by decide +kernel) (pa_cons (pv 5) pa_nil))) pa_nil))))))
          (pw_or1 (pt_cmpR (op_neD hr.units) (pe_call GO (hm _ (by decide)) rfl (T.gl "least_of") kO bO .nil pass0 (pa_cons (pe_op op_catL (pv 7) (pv 7)) pa_nil)) (pv 7) (nomark _))))) (pss_one (ps_ret pe_bl)) pss_nil)
      (pss_cons (ps_for PassesOwn.never rfl (pi_tup (pv 4)) (pg_name (i := 11) scLW.nd rfl (Or.inl rfl))
        (pss_one (ps_for PassesOwn.never rfl (pi_list (pe_dget2 (room_1 hr) (pe_fld (pv 8) rfl) (pv 11) (pe_lst pa_nil) ⟨rfl, rfl, rfl, rfl⟩)) (pg_name (i := 9) scLW.nd rfl (Or.inr rfl))
          (pss_one (ps_if (pt_not (pt_val (pe_callB (cr_any rfl) rfl (T.fr "any") (by decide +kernel) (pa_cons (pe_lc (own := [("_law_one", 18)]) (g := gName 18) (tt := tYes) (te := tCall (spB K (rLBelow K)) [] E0 (tCons (tVar 18) (tCons (tVar 9) tNil))) rfl scLW.nd (pi_list (pv 7)) (blkOk_by (N := NLW) (sc := defScope sLaw) (by decide +kernel))
              (fun _ _ _ _ _ => pg_name (i := 18) scLW.nd rfl (Or.inl rfl)) (fun _ _ _ _ _ => pts_nil) (fun _ _ _ _ _ => pe_call GB (hm _ (by decide)) rfl (T.gl "_law_below") kB bB .nil pass0 (pa_cons (pv 18) (pa_cons (pv 9) pa_nil)))) pa_nil)))) (pss_one (ps_ret pe_bl)) pss_nil)))))
      (pss_cons (ps_set (i := 12) scLW.nd rfl (Or.inr rfl) (pe_call GA (hm _ (by decide)) rfl (T.gl "_law_allowances") kA bA .nil pass0 (pa_cons (pv 0) (pa_cons pe_int (pa_cons (pv 5) pa_nil)))))
      (pss_cons (ps_set (i := 13) scLW.nd rfl (Or.inr rfl) (pe_lc (own := [("_law_kind", 17)]) (g := gName 17) (tt := tYes) (te := tDGet2 (tVar 12) (tVar 17) (tC (.int 0))) rfl scLW.nd (pi_list (pv 5)) (blkOk_by (N := NLW) (sc := defScope sLaw) (by decide +kernel))
              (fun _ _ _ _ _ => pg_name (i := 17) scLW.nd rfl (Or.inl rfl)) (fun _ _ _ _ _ => pts_nil) (fun _ _ _ _ _ => pe_dget2 (room_1 hr) (pv 12) (pv 17) pe_int ⟨rfl, rfl, rfl, rfl⟩)))
      (pss_cons (ps_if (pt_cmpR op_ne (pe_call GHo (hm _ (by decide)) rfl (T.gl "holds_for") kHo bHo .nil pass0 (pa_cons (pv 3) (pa_cons (pv 4) (pa_cons (pv 12) pa_nil))))
          (pe_not (pe_callB (cr_any rfl) rfl (T.fr "any") (by decide +kernel) (pa_cons (pe_lc (own := [("_law_vector", 9)]) (g := gName 9) (tt := tYes) (te := tCall (spBelow K) [] E0 (tCons (tVar 9) (tCons (tVar 13) tNil))) rfl scLW.nd (pi_list (pv 7)) (blkOk_by (N := NLW) (sc := defScope sLaw) (by decide +kernel))
              (fun _ _ _ _ _ => pg_name (i := 9) scLW.nd rfl (Or.inl rfl)) (fun _ _ _ _ _ => pts_nil) (fun _ _ _ _ _ => pe_call GW (hm _ (by decide)) rfl (T.gl "is_within") kW bW .nil pass0 (pa_cons (pv 9) (pa_cons (pv 13) pa_nil)))) pa_nil))) (nomark _)) (pss_one (ps_ret pe_bl)) pss_nil)
      (pss_cons (ps_if (pt_cmpR (op_neD hr.units) (pv 7) (pe_lst pa_nil) (nomark _))
          (pss_cons (ps_set (i := 14) scLW.nd rfl (Or.inl rfl) (pe_call GD (hm _ (by decide)) rfl (T.gl "_law_draw") kD bD .nil pass0 (pa_cons (pv 0) (pa_cons pe_int (pa_cons (pe_callB call_len_seq rfl (T.fr "len") (by decide +kernel) (pa_cons (pv 7) pa_nil)) pa_nil)))))
          (pss_cons (ps_if (pt_val (pe_meth (pe_make (T.make "Least") GIn (hm _ (by decide)) rfl (T.gl "Least") bIn .nil pass0 (pa_cons (pe_op op_catL (pe_slice sl_list (pv 7) po_none (po_some (pv 14))) (pe_slice sl_list (pv 7) (po_some (pe_op op_add (pv 14) pe_int)) po_none))
              (pa_cons (pe_op op_catL (pe_slice sl_list (pe_fld (pv 8) rfl) po_none (po_some (pv 14))) (pe_slice sl_list (pe_fld (pv 8) rfl) (po_some (pe_op op_add (pv 14) pe_int)) po_none)) (pa_cons (pe_fld (pv 8) rfl) pa_nil)))) (T.cl "Least") (T.me "Least" "shows") GH (hm _ (by decide)) bH .nil pass0 (pa_cons (pv 3) (pa_cons (pv 4) pa_nil)))) (pss_one (ps_ret pe_bl)) pss_nil)
          (pss_cons (ps_if (pt_cmpR op_ne (pe_meth (pe_make (T.make "Least") GIn (hm _ (by decide)) rfl (T.gl "Least") bIn .nil pass0 (pa_cons (pv 7)
              (pa_cons (pe_op op_catL (pe_op op_catL (pe_slice sl_list (pe_fld (pv 8) rfl) po_none (po_some (pv 14))) (pe_lst (pa_cons (pe_lst pa_nil) pa_nil))) (pe_slice sl_list (pe_fld (pv 8) rfl) (po_some (pe_op op_add (pv 14) pe_int)) po_none)) (pa_cons (pe_fld (pv 8) rfl) pa_nil)))) (T.cl "Least") (T.me "Least" "shows") GH (hm _ (by decide)) bH .nil pass0 (pa_cons (pv 3) (pa_cons (pv 4) pa_nil)))
              (pe_and (pe_cmpR (op_eqD hr.units) (pe_ix ix_list (pv 7) (pv 14) (fun _ _ => rfl)) (pe_op op_repN (pe_tup (pa_cons pe_int pa_nil)) (pe_callB call_len_seq rfl (T.fr "len") (by decide +kernel) (pa_cons (pv 5) pa_nil))) (nomark _)) (pe_one (pe_cmpR op_in_seq pe_int (pv 4) rfl))) (nomark _)) (pss_one (ps_ret pe_bl)) pss_nil)
          (pss_cons (ps_set (i := 15) scLW.nd rfl (Or.inl rfl) (pe_callTy (call_dictP rfl) rfl (T.fr "dict") (by decide +kernel) (pa_cons (pe_op op_catL (LiI.pe_listItems rfl (pe_fld (pv 8) rfl) rfl (T.fr "list") (by decide +kernel)) (pe_lst (pa_cons (pe_tup (pa_cons pe_int (pa_cons (pe_lst pa_nil) pa_nil))) pa_nil))) pa_nil)))
          (pss_one (ps_if (PW.pt (pw_or (pt_val (pe_meth (pe_make (T.make "Least") GIn (hm _ (by decide)) rfl (T.gl "Least") bIn .nil pass0 (pa_cons (pv 7) (pa_cons (pe_fld (pv 8) rfl) (pa_cons (pv 15) pa_nil)))) (T.cl "Least") (T.me "Least" "shows") GH (hm _ (by decide)) bH .nil pass0 (pa_cons (pv 3) (pa_cons (pv 4) pa_nil))))
              (pw_or1 (pt_not (pt_val (pe_meth (pe_make (T.make "Least") GIn (hm _ (by decide)) rfl (T.gl "Least") bIn .nil pass0 (pa_cons (pe_callTy call_tuple_of rfl (T.fr "tuple") (by decide +kernel) (pa_cons (pv 7) pa_nil)) (pa_cons (pe_callTy call_tuple_of rfl (T.fr "tuple") (by decide +kernel) (pa_cons (pe_fld (pv 8) rfl) pa_nil)) (pa_cons (pe_fld (pv 8) rfl) pa_nil)))) (T.cl "Least") (T.me "Least" "shows") GH (hm _ (by decide)) bH .nil pass0 (pa_cons (pv 3) (pa_cons (pv 4) pa_nil)))))))) (pss_one (ps_ret pe_bl)) pss_nil)))))) pss_nil)
      (pss_cons (ps_if (PW.pt (pw_and (pt_cmpR (op_neD hr.units) (pv 5) (pe_lst pa_nil) (nomark _)) (pw_and1 (pt_not (pt_val (pe_call GRa (hm _ (by decide)) rfl (T.gl "_law_raised_right") kRa bRa .nil pass0 (pa_cons (pv 3) (pa_cons (pv 4) (pa_cons (pv 8) pa_nil))))))))) (pss_one (ps_ret pe_bl)) pss_nil)
      (pss_cons (ps_for PassesOwn.never rfl (pi_tup (pe_tup (pa_cons (pe_tup (pa_cons (pv 1) pa_nil)) (pa_cons (pe_tup (pa_cons pe_int (pa_cons pe_int pa_nil))) (pa_cons (pe_lst (pa_cons pe_int pa_nil)) (pa_cons (pe_tup (pa_cons pe_bl pa_nil)) (pa_cons (pe_tup (pa_cons pe_int (pa_cons pe_int pa_nil))) (pa_cons pe_non pa_nil)))))))) (pg_name (i := 16) scLW.nd rfl (Or.inl rfl))
          (pss_one (ps_try_only (tb := fun W => tSeq (tDrop (tCallS (spLF K) (WE W) (tCons (tVar 3) (tCons (tVar 16) tNil)))) (tRet (tC (.bl false)))) (ts := fun _ _ _ => tNext) (Wout := fun _ _ _ _ => False) rfl rfl ⟨rfl, by decide, Or.inl (T.gl "BadStates")⟩ takes0
            (fun W pn xe tk _ => pss_cons (ps_expr (pe_callS GF (hm _ (by decide)) rfl (T.gl "least_falls") kF bF (fun σ => passAt tk σ) (by exact (pa_cons (pv 3) (pa_cons (pv 16) pa_nil))))) (pss_one (ps_ret pe_bl)))
            (fun _ _ _ _ _ _ _ => pss_one ps_pass))))
      (pss_one (ps_ret pe_bl))))))))))))))))), ?_⟩
    have l60 : sc.length ≤ 1000 := by omega
    have x0 : Dp K H (.ref sa) (.list (sc.map .int)) := .lst hsc (dps_ints sc)
    have xv : ∀ {σ : L2.St} {H0 : Hp}, Ex H H0 → σ[0]? = some (some (.ref sa)) → EvD K (tVar 0) σ H0 (.list (sc.map .int)) := fun e h => evd_var h (dp_ex e x0)
    have hk4 := kzN_eq sc
    have hi0 := ev_add (ev_c (v := .int 4)) (ev_draw (K := K) (σ := start NLW [.ref sa]) (H := H) (a := 400) (many := 2) (xv (Ex.refl _) rfl) (ev_c (v := .int 400)) (ev_c (v := .int 2)) l60 (by decide) (by decide))
    rw [← hk4.1] at hi0
    have sl0 := evd_slT (K := K) (evd_tup (K := K) (H := H) (σ := start NLW [.ref sa]) (ead_cons (evd_c (.str ("" : Str))) (ead_cons (evd_c (.str ("" : Str))) (ead_cons (evd_c (.str ("x" : Str))) (ead_cons (evd_c (.str ("y" : Str))) (ead_cons (evd_c (.str ("z" : Str))) ead_nil))))) (by show 5 ≤ 100000; decide)) eo_none (eo_some hi0)
    rw [cut_to] at sl0
    have ek : ([PyData.str ("" : Str), .str ("" : Str), .str ("x" : Str), .str ("y" : Str), .str ("z" : Str)]).take (kzN sc) = (kz sc).map .str := by
      unfold kz
      rw [List.map_take]
      rfl
    rw [ek] at sl0
    have lm := evd_call (K := K) (E := E0) (R := rLM K) (d := .tuple [.int (lmMany sc), .list ((lmRaw sc (kz sc)).map dStp)]) (ead_cons (xv (σ := start NLW [.ref sa]) (Ex.refl _) rfl) (ead_cons (evd_c (.int 0)) (ead_cons (evd_c (.int 4)) (ead_cons sl0 (ead_cons (evd_tup (K := K) (ead_cons (evd_c (.str ("" : Str))) ead_nil) (by show 1 ≤ 100000; decide)) ead_nil))))) fun vs Hs' _ hvs => by
      cases hvs with
      | cons h1 hvs => cases hvs with
        | cons h2 hvs =>
          obtain ⟨y, z, u, rfl, h3, h4, h5⟩ := dps3 hvs
          have := dp_int h2
          subst this
          have := dp_int h3
          subst this
          exact ⟨_, z, u, sc, kz sc, rfl, h1, l60, h4, (kz_len sc).1, (kz_len sc).2, h5, rfl⟩
    refine y_asg2 (i := 1) (j := 2) lm (Ex.refl _) fun y1 y2 Hs1 H1 f1 p1 p2 => ?_
    have := dp_int p1
    subst this
    dsimp only
    have hmr := lmMany_range sc
    have hn : (((lmMany sc).toNat : Nat) : Int) = lmMany sc := by omega
    have mk := evp_machine (K := K) (E := E0) (σ := [some (.ref sa), some (.int (lmMany sc)), some y2, none, none, none, none, none, none, none, none, none, none, none, none, none, none, none, none]) (H := Hs1) (ta := tVar 1) (tb := tVar 2) (raw_ok sc) (by rw [hn]; exact ev_var rfl) (evd_var (i := 2) (v := y2) rfl p2)
    have so := evd_call (K := K) (E := E0) (R := rSome K) (d := .tuple ((someL sc (lmMany sc).toNat).map .int)) (ead_cons (xv (σ := [some (.ref sa), some (.int (lmMany sc)), some y2, none, none, none, none, none, none, none, none, none, none, none, none, none, none, none, none]) f1.b rfl) (ead_cons (evd_c (.int 300)) (ead_cons (evd_var (i := 1) (v := .int (lmMany sc)) rfl (.int _)) ead_nil))) fun vs Hs' _ hvs => by
      obtain ⟨a, b, c, rfl, h1, h2, h3⟩ := dps3 hvs
      have := dp_int h2
      subst this
      have := dp_int h3
      subst this
      exact ⟨a, sc, (lmMany sc).toNat, by rw [hn], h1, l60, by omega, rfl⟩
    refine y_asg2T (i := 3) (j := 4) mk (fun v H1 H2 e h => by
      obtain ⟨kinds, hk, a, b⟩ := h
      exact ⟨kinds, hk, a, b.ex e⟩) so (fun _ _ _ => dp_mono _ _ _) f1.c fun m g Hs2 H2 f2 pm pg => ?_
    obtain ⟨M, hMn, O, hxyz, hmac⟩ : ∃ M : Mac, M.many = (lmMany sc).toNat ∧ MOk M ∧ (∀ k ∈ M.kinds, k ∈ [("x" : Str), "y", "z"]) ∧ MacAt K M m Hs2 := by
      obtain ⟨kinds, hk, a, b⟩ := pm
      exact ⟨_, rfl, mac_ok hk a, kinds_xyz a, b⟩
    obtain ⟨gs, hgo, hgl, hgs, hg⟩ : ∃ gs : List Int, okGoals M gs ∧ gs.length ≤ 4 ∧ (∀ g ∈ gs, ∃ i : Nat, g = (i : Int) ∧ i < M.many) ∧ Dp K Hs2 g (.tuple (gs.map .int)) := by
      obtain ⟨a, b, c⟩ := some_ok sc M hMn (by omega)
      exact ⟨_, a, b, by rw [hMn]; exact c, pg⟩
    rw [show lmMany sc = (M.many : Int) by rw [hMn, hn]]
    clear pm pg so mk lm sl0 hi0
    dsimp only
    have few := O.few
    have hm2 : Ex H Hs2 := f1.b.trans f2.b
    refine y_asg (evd_kinds T (evp_mac (i := 3) (σ := [some (.ref sa), some (.int (M.many : Int)), some y2, some m, some g, none, none, none, none, none, none, none, none, none, none, none, none, none, none]) (v := m) rfl hmac)) f2.c fun k Hs3 H3 f3 hkd => ?_
    dsimp only
    have vecs : EvP (tCall (spVecs K P w) [] E0 (tCons (tVar 1) (tCons (tFld K (tVar 3) "steps") (tCons (tVar 5) (tCons (tOp rRep (tLst (tCons (tVar 1) tNil)) (tCB (fun xs H Q => ∃ p ys, xs = [.ref p] ∧ (SqL K H p ys ∨ SqT K H p ys) ∧ Q (.int ys.length) H) (tCons (tVar 5) tNil))) tNil)))))
        [some (.ref sa), some (.int (M.many : Int)), some y2, some m, some g, some k, none, none, none, none, none, none, none, none, none, none, none, none, none] Hs3 (fun v H2 => ∃ F : List (Int × Vec), F.Nodup ∧ (∀ p, p ∈ F ↔ Rch M p.1 p.2) ∧ NdAt K P w (F.map kPr) v H2) := by
      have lk := ev_lenD (K := K) (t := false) (σ := [some (.ref sa), some (.int (M.many : Int)), some y2, some m, some g, some k, none, none, none, none, none, none, none, none, none, none, none, none, none]) (evd_var (i := 5) (v := k) rfl hkd)
      rw [List.length_map] at lk
      refine evp_call (R := fun vs H2 => DpAll K H2 vs [.int (M.many : Int), .tuple (M.steps.map dStp), .list (M.kinds.map .str), .list ((manyL M).map .int)]) (ead_cons (evd_var (i := 1) (v := .int (M.many : Int)) rfl (.int _)) (ead_cons (evd_steps T (evp_mac (i := 3) (v := m) rfl (hmac.ex f3.b))) (ead_cons (evd_var (i := 5) (v := k) rfl hkd)
        (ead_cons (evd_repI (K := K) (tx := tVar 1) (ev_var (i := 1) (v := .int (M.many : Int)) rfl) lk (by omega)) ead_nil)))) fun Hs' H' _ ex vs hvs Q' hQ => ?_
      cases hvs with
      | cons h1 hvs =>
        obtain ⟨a, b, c, rfl, h2, h3, h4⟩ := dps3 hvs
        have := dp_int h1
        subst this
        exact ⟨Hs', a, b, c, M, rfl, ex, O, h2, h3, h4, fun v Hs'' H'' F fw n1 n2 n3 => hQ v Hs'' H'' fw ⟨F, n2, n3, n1⟩⟩
    refine y_asg vecs f3.c fun r Hs4 H4 f4 hr4 => ?_
    obtain ⟨F0, nF, hF, d, xs, rfl, dF1, dF2, dF3⟩ := hr4
    dsimp only
    have e24 : Ex Hs2 Hs4 := f3.b.trans f4.b
    have ink := evd_inKeys (K := K) (P := P) (w := w) (F := F0) (gs := gs) (td := tVar 6) (tg := tVar 4) (j := 11) (k := 9) (H := Hs4) (σ := [some (.ref sa), some (.int (M.many : Int)), some y2, some m, some g, some k, some (.ref d), none, none, none, none, none, none, none, none, none, none, none, none])
      (Nat.le_trans (rch_few O nF fun p hp => (hF p).mp hp) (by decide)) ⟨d, xs, dF1, dF2, dF3, fun _ => ev_var rfl⟩ (fun _ _ _ h => evd_var (i := 4) (v := g) rfl (h _ _ (dp_ex e24 hg))) (fun _ _ => rfl) (fun _ _ => rfl) fun _ _ => rfl
    have due := evd_call (K := K) (E := E0) (R := rLLeast K) (d := .list ((leastOf ((F0.filter fun p => decide (p.1 ∈ gs)).map (·.2))).map dV)) (ead_cons ink ead_nil) fun vs Hs' _ hvs => by
      obtain ⟨x, rfl, hx⟩ := dps1 hvs
      refine ⟨x, _, allVec M, M.kinds.length, rfl, hx, fun v hv => ?_, by omega, Nat.le_trans (allVec_len O) (by decide), fun v hv => ?_, rfl⟩
      · obtain ⟨p, hp, rfl⟩ := List.mem_map.mp hv
        exact rch_len ((hF p).mp (List.mem_filter.mp hp).1)
      · obtain ⟨p, hp, rfl⟩ := List.mem_map.mp hv
        exact rch_vec O ((hF p).mp (List.mem_filter.mp hp).1)
    refine y_asg due f4.c fun u Hs5 H5 f5 hu => ?_
    dsimp only
    have e25 : Ex Hs2 Hs5 := e24.trans f5.b
    have lf : EvP (tCall (spLF K) [] E0 (tCons (tVar 3) (tCons (tVar 4) tNil))) [some (.ref sa), some (.int (M.many : Int)), some y2, some m, some g, some k, some (.ref d), some u, none, none, none, none, none, none, none, none, none, none, none] Hs5 (fun v H2 => ∃ W, WDone M (noLim M) W ∧ LeastAt K (LFvecs W gs) (LFruns M W gs) (tableL W.costs) v H2) := by
      refine evp_call (R := fun vs H2 => ∃ x y, vs = [x, y] ∧ MacAt K M x H2 ∧ Dp K H2 y (.tuple (gs.map .int))) (eap2 (evp_mac (i := 3) (v := m) rfl (hmac.ex e25)) (fun _ _ _ e h => MacAt.ex e h) (evd_var (i := 4) (v := g) rfl (dp_ex e25 hg))) fun Hs' H' _ ex vs hvs Q' hQ => ?_
      obtain ⟨x, y, rfl, h1, h2⟩ := hvs
      refine ⟨Hs', x, y, M, .tuple (gs.map .int), rfl, ex, h1, O, h2, fun ds e => by injection e with e; rw [← e, List.length_map]; exact hgl, fun gs' e _ W v Hs'' H'' D fw L => ?_, fun hb => absurd hb (by rw [hgo.1]; decide)⟩
      have e2 : gs = gs' := by
        injection e with e
        exact (List.map_inj_right (fun a b q => by injection q)).mp e
      subst e2
      exact hQ v Hs'' H'' fw ⟨W, D, L⟩
    refine y_asg lf f5.c fun f Hs6 H6 f6 hf => ?_
    obtain ⟨W, D, hf⟩ := hf
    rw [due_eq O D hF] at hu
    clear lf due ink vecs
    dsimp only
    have AK := ask_of O D hgo hgl
    have X6 : Dp K Hs6 (.ref sa) (.list (sc.map .int)) := dp_ex (hm2.trans (e25.trans f6.b)) x0
    have M6 : MacAt K M m Hs6 := hmac.ex (e25.trans f6.b)
    have G6 : Dp K Hs6 g (.tuple (gs.map .int)) := dp_ex (e25.trans f6.b) hg
    have K6 : Dp K Hs6 k (.list (M.kinds.map .str)) := dp_ex (f4.b.trans (f5.b.trans f6.b)) hkd
    have U6 : Dp K Hs6 u (.list ((LFvecs W gs).map dV)) := dp_ex f6.b hu
    have xV : ∀ {σ : L2.St} {H0 : Hp}, Ex Hs6 H0 → σ[0]? = some (some (.ref sa)) → EvD K (tVar 0) σ H0 (.list (sc.map .int)) := fun e h => evd_var h (dp_ex e X6)
    have mV : ∀ {σ : L2.St} {H0 : Hp}, Ex Hs6 H0 → σ[3]? = some (some m) → EvP (tVar 3) σ H0 (MacAt K M) := fun e h => evp_of (ev_var h) fun _ e' => M6.ex (e.trans e')
    have gV : ∀ {σ : L2.St} {H0 : Hp}, Ex Hs6 H0 → σ[4]? = some (some g) → EvD K (tVar 4) σ H0 (.tuple (gs.map .int)) := fun e h => evd_var h (dp_ex e G6)
    have kV : ∀ {σ : L2.St} {H0 : Hp}, Ex Hs6 H0 → σ[5]? = some (some k) → EvD K (tVar 5) σ H0 (.list (M.kinds.map .str)) := fun e h => evd_var h (dp_ex e K6)
    have uV : ∀ {σ : L2.St} {H0 : Hp}, Ex Hs6 H0 → σ[7]? = some (some u) → EvD K (tVar 7) σ H0 (.list ((LFvecs W gs).map dV)) := fun e h => evd_var h (dp_ex e U6)
    have fV : ∀ {σ : L2.St} {H0 : Hp}, Ex Hs6 H0 → σ[8]? = some (some f) → EvP (tVar 8) σ H0 (LeastAt K (LFvecs W gs) (LFruns M W gs) (tableL W.costs)) := fun e h => evp_of (ev_var h) fun _ e' => hf.ex (e.trans e')
    have kL : ∀ {σ : L2.St} {H0 : Hp}, Ex Hs6 H0 → σ[5]? = some (some k) → Ev (tCB (fun xs H Q => ∃ p ys, xs = [.ref p] ∧ (SqL K H p ys ∨ SqT K H p ys) ∧ Q (.int ys.length) H) (tCons (tVar 5) tNil)) σ H0 (.int (M.kinds.length : Int)) := fun e h => by
      have := ev_lenD (K := K) (t := false) (kV e h)
      rw [List.length_map] at this
      exact this
    have uL : ∀ {σ : L2.St} {H0 : Hp}, Ex Hs6 H0 → σ[7]? = some (some u) → Ev (tCB (fun xs H Q => ∃ p ys, xs = [.ref p] ∧ (SqL K H p ys ∨ SqT K H p ys) ∧ Q (.int ys.length) H) (tCons (tVar 7) tNil)) σ H0 (.int ((LFvecs W gs).length : Int)) := fun e h => by
      have := ev_lenD (K := K) (t := false) (uV e h)
      rw [List.length_map] at this
      exact this
    have sh : ∀ {to : TE} {σ : L2.St} {H0 : Hp} {us : List Vec} {rs : List (List Stp)} {cs : List (Int × List Vec)}, Ex Hs6 H0 → AskOk M gs us rs cs → EvP to σ H0 (LeastAt K us rs cs) → σ[3]? = some (some m) → σ[4]? = some (some g) → Ev (tMeth (He.ga K "Least") "shows" (spB K (rShows K)) [] E0 to (tCons (tVar 3) (tCons (tVar 4) tNil))) σ H0 (.bl (showsB M gs us rs cs)) := fun e A ho h3 h4 => ev_shows O A ho (mV e h3) (gV e h4)
    have ul : ∀ v ∈ LFvecs W gs, v.length = M.kinds.length := (us_least D).one
    have uf : (LFvecs W gs).length ≤ 1024 := Nat.le_trans (leastOf_len _) (by have := heldAll_len O D.inv gs; omega)
    -- the first test
    have t7 := et_or (et_test (ev_neVs (K := K) (σ := [some (.ref sa), some (.int (M.many : Int)), some y2, some m, some g, some k, some (.ref d), some u, some f, none, none, none, none, none, none, none, none, none, none]) (H := Hs6) (evd_lvecs T (fV (Ex.refl _) rfl)) (uV (Ex.refl _) rfl))) fun _ =>
      et_or (et_not (et_B (sh (Ex.refl _) AK (fV (Ex.refl _) rfl) rfl rfl))) fun _ => et_test (ev_neI (ev_lenD (K := K) (t := false) (evd_lruns T (fV (Ex.refl _) rfl))) (uL (Ex.refl _) rfl))
    rw [show_true O D, List.length_map, rs_len] at t7
    refine y_if t7 f6.c (fun hb => by simp at hb) fun _ H7 e7 => ?_
    refine y_next ?_
    dsimp only
    clear t7
    -- the runs
    refine y_for (wk_zipA (K := K) (p := false) (q := false) (LFvecs W gs) (LFruns M W gs) dV dRun (j := 9) (k := 10) (σ := [some (.ref sa), some (.int (M.many : Int)), some y2, some m, some g, some k, some (.ref d), some u, some f, none, none, none, none, none, none, none, none, none, none]) (ead_cons (evd_lvecs T (fV (Ex.refl _) rfl)) (ead_cons (evd_lruns T (fV (Ex.refl _) rfl)) ead_nil))) (f6.c.trans e7)
      (fun i σ' Hs' H' => Ex Hs6 Hs' ∧ ∃ a b, σ' = [some (.ref sa), some (.int (M.many : Int)), some y2, some m, some g, some k, some (.ref d), some u, some f, a, b, none, none, none, none, none, none, none, none])
      (fun Hs' H' f => ⟨f.b, none, none, rfl⟩) (fun i σ' Hs' H' hi fm iv σ5 Hs8 H8 f8 hS N hN => ?_) fun σ' Hs8 H8 fm8 iv => ?_
    · obtain ⟨ex, a9, a10, rfl⟩ := iv
      obtain ⟨v, w', ⟨v0, r0, hv, pv, pr⟩, rfl⟩ := hS
      have e8 := ex.trans f8.b
      unfold LFruns at hv
      obtain ⟨hv0, rfl⟩ := zip_pick _ hv
      obtain ⟨q1, q2, q3, q4⟩ := pick_ok O D hv0
      have t8 := et_or (et_not (et_B (evb_call1' (K := K) (E := E0) (R := rRunRight K) (b := decide (endOf 0 (pickRun M W gs v0) ∈ gs)) (eap3 (mV (σ := [some (.ref sa), some (.int (M.many : Int)), some y2, some m, some g, some k, some (.ref d), some u, some f, some v, some w', none, none, none, none, none, none, none, none]) e8 rfl) (fun _ _ _ e h => MacAt.ex e h) (evd_var (i := 10) (v := w') rfl pr) (fun _ _ _ => dp_mono _ _ _) (gV e8 rfl)) fun vs Hs0 h => by
          obtain ⟨x, y, z, rfl, h1, h2, h3⟩ := h
          exact ⟨x, y, z, M, _, gs, rfl, h1, O, h2, h3, q1, q2, rfl⟩))) fun _ =>
        et_or (et_test (ev_neV (evd_call (K := K) (E := E0) (R := rLFalls K) (d := dV (fallsOf M.kinds (pickRun M W gs v0))) (ead_cons (evd_var (i := 10) (v := w') rfl pr) (ead_cons (kV e8 rfl) ead_nil)) fun vs Hs0 _ h => by
          obtain ⟨x, y, rfl, h1, h2⟩ := dps2 h
          exact ⟨x, y, _, _, rfl, h1, h2, q2, by omega, rfl⟩) (evd_var (i := 9) (v := v) rfl pv))) fun _ =>
        et_test (ev_neV (evd_call1' (K := K) (E := E0) (R := rFalls K) (d := dV (fallsOf M.kinds (pickRun M W gs v0))) (eap2 (mV e8 rfl) (fun _ _ _ e h => MacAt.ex e h) (evd_var (i := 10) (v := w') rfl pr)) fun vs Hs0 h => by
          obtain ⟨x, y, rfl, h1, h2⟩ := h
          exact ⟨x, y, M, _, rfl, h1, h2, q1, q2, by omega, rfl⟩) (evd_var (i := 9) (v := v) rfl pv))
      rw [q4, decide_eq_true q3] at t8
      refine y_if t8 f8.c (fun hb => by simp at hb) fun _ H9 e9 => ?_
      refine y_next ?_
      have ff := f8.trans (Fw.skip f8.c e9)
      exact hN _ Hs8 _ ff.m ⟨e8, _, _, rfl⟩
    obtain ⟨e8, a9, a10, rfl⟩ := iv
    dsimp only
    -- closed, least_of twice
    have nn := evd_repN (K := K) (kL (σ := [some (.ref sa), some (.int (M.many : Int)), some y2, some m, some g, some k, some (.ref d), some u, some f, a9, a10, none, none, none, none, none, none, none, none]) e8 rfl) (by omega)
    have t9 := et_or (et_not (et_B (evb_call1' (K := K) (E := E0) (R := rClosed K) (b := true) (eap3 (mV e8 rfl) (fun _ _ _ e h => MacAt.ex e h) (evp_lcosts T (fV e8 rfl)) (fun _ _ _ e h => DictX.ex e h) nn) fun vs Hs0 h => by
        obtain ⟨x, y, z, rfl, h1, h2, h3⟩ := h
        exact ⟨x, y, z, M, _, rfl, h1, O, h2, h3, AK.tab, closed_table O D, rfl⟩))) fun _ =>
      et_test (ev_neVs (evd_call (K := K) (E := E0) (R := rLeastOf K) (d := .list ((leastOf (LFvecs W gs ++ LFvecs W gs)).map dV)) (ead_cons (evd_catL (uV e8 rfl) (uV e8 rfl) (by rw [List.length_map]; omega)) ead_nil) fun vs Hs0 _ h => by
        obtain ⟨x, rfl, h1⟩ := dps1 h
        refine ⟨x, LFvecs W gs ++ LFvecs W gs, M.kinds.length, rfl, by rw [List.map_append]; exact h1, fun v hv => ?_, by omega, by rw [List.length_append]; omega, rfl⟩
        rcases List.mem_append.mp hv with z | z <;> exact ul v z) (uV e8 rfl))
    rw [(us_least (gs := gs) D).same (m := LFvecs W gs ++ LFvecs W gs) fun x => by simp] at t9
    refine y_if t9 fm8.c (fun hb => by simp at hb) fun _ H9 e9 => ?_
    refine y_next ?_
    dsimp only
    clear t9 nn
    -- all of the table lie above
    refine y_for (wk_tupA gs .int (j := 11) (gV (σ := [some (.ref sa), some (.int (M.many : Int)), some y2, some m, some g, some k, some (.ref d), some u, some f, a9, a10, none, none, none, none, none, none, none, none]) e8 rfl)) (fm8.c.trans e9)
      (fun i σ' Hs' H' => Ex Hs6 Hs' ∧ ∃ a b c, σ' = [some (.ref sa), some (.int (M.many : Int)), some y2, some m, some g, some k, some (.ref d), some u, some f, a, b, c, none, none, none, none, none, none, none])
      (fun Hs' H' f => ⟨e8.trans f.b, a9, a10, none, rfl⟩) (fun i σ' Hs' H' hi fm iv σ5 Hs10 H10 f10 hS N hN => ?_) fun σ' Hs10 H10 fm10 iv => ?_
    · obtain ⟨ex, b9, b10, b11, rfl⟩ := iv
      obtain ⟨z, ⟨q, hq, pq⟩, rfl⟩ := hS
      have := dp_int pq
      subst this
      have e10 := ex.trans f10.b
      have TT := AK.tab.held q
      refine y_for (wk_listA (heldC (tableL W.costs) q) dV (j := 9) (evd_held (σ := [some (.ref sa), some (.int (M.many : Int)), some y2, some m, some g, some k, some (.ref d), some u, some f, b9, b10, some (.int q), none, none, none, none, none, none, none]) (evp_at (evp_lcosts T (fV e10 rfl))) (ev_var (i := 11) (v := .int q) rfl))) f10.c
        (fun i σ' Hs' H' => Ex Hs6 Hs' ∧ ∃ a b, σ' = [some (.ref sa), some (.int (M.many : Int)), some y2, some m, some g, some k, some (.ref d), some u, some f, a, b, some (.int q), none, none, none, none, none, none, none])
        (fun Hs' H' f => ⟨e10.trans f.b, b9, b10, rfl⟩) (fun j σ' Hs' H' hj fm' iv σ6 Hs11 H11 f11 hS N' hN' => ?_) fun σ' Hs11 H11 fm11 iv => ?_
      · obtain ⟨ex', c9, c10, rfl⟩ := iv
        obtain ⟨z, ⟨v, hv, pv⟩, rfl⟩ := hS
        have e11 := ex'.trans f11.b
        have key := evd_lcM (K := K) (σ := [some (.ref sa), some (.int (M.many : Int)), some y2, some m, some g, some k, some (.ref d), some u, some f, some z, c10, some (.int q), none, none, none, none, none, none, none]) (H := Hs11) (vs := [18]) (te := tCall (spB K (rLBelow K)) [] E0 (tCons (tVar 18) (tCons (tVar 9) tNil))) (LFvecs W gs) (fun o => PyData.bool (below o v)) (wk_listA (LFvecs W gs) dV (j := 18) (uV e11 rfl)) (by omega) fun i o σ2 H' hi e hS => by
          obtain ⟨y, ⟨o', e1, p1⟩, rfl⟩ := hS
          rw [hi] at e1
          cases e1
          refine ⟨rfl, evd_bl (evb_callB (ds := [dV o, dV v]) (ead_cons (evd_var (i := 18) (v := y) rfl p1) (ead_cons (evd_var (i := 9) (v := z) rfl (dp_ex e pv)) ead_nil)) fun vs Hs0 _ h => ?_)⟩
          obtain ⟨y1, y2, rfl, h1, h2⟩ := dps2 h
          exact ⟨y1, y2, o, v, rfl, h1, h2, by rw [ul o (List.mem_of_getElem? hi)]; omega, rfl⟩
        have em : (LFvecs W gs).map (fun o => PyData.bool (below o v)) = ((LFvecs W gs).map fun o => below o v).map PyData.bool := by rw [List.map_map]; rfl
        rw [em] at key
        have t10 := et_not (et_B (ev_any key))
        have b10 : (((LFvecs W gs).map fun o => below o v).any id) = true := by
          obtain ⟨o, h1, h2⟩ := us_under D (gs := gs) (v := v) (mem_heldAll.mpr ⟨q, List.mem_of_getElem? hq, List.mem_of_getElem? hv⟩)
          rw [List.any_map]
          exact List.any_eq_true.mpr ⟨o, h1, h2⟩
        rw [b10] at t10
        refine y_if t10 f11.c (fun hb => by cases hb) fun _ H12 e12 => ?_
        refine y_next ?_
        have ff := f11.trans (Fw.skip f11.c e12)
        exact hN' _ Hs11 _ ff.m ⟨e11, _, _, rfl⟩
      · obtain ⟨ex', c9, c10, rfl⟩ := iv
        exact hN _ Hs11 _ (f10.m.trans fm11) ⟨ex', _, _, _, rfl⟩
    obtain ⟨e10, b9, b10, b11, rfl⟩ := iv
    dsimp only
    -- allowances
    have alo := al_ok sc O.knd hxyz
    have tal : EvP (tCall (spLAl K) [] E0 (tCons (tVar 0) (tCons (tC (.int 320)) (tCons (tVar 5) tNil)))) [some (.ref sa), some (.int (M.many : Int)), some y2, some m, some g, some k, some (.ref d), some u, some f, b9, b10, b11, none, none, none, none, none, none, none] Hs10 (DkAt K (alD (alOf sc M.kinds))) := by
      refine evp_call (R := fun vs H2 => DpAll K H2 vs [.list (sc.map .int), .int 320, .list (M.kinds.map .str)]) (ead_cons (xV e10 rfl) (ead_cons (evd_c (.int 320)) (ead_cons (kV e10 rfl) ead_nil))) fun Hs' H' _ ex vs hvs Q' hQ => ?_
      obtain ⟨a, b, c, rfl, h1, h2, h3⟩ := dps3 hvs
      have := dp_int h2
      subst this
      exact ⟨Hs', a, c, sc, M.kinds, rfl, ex, h1, l60, h3, O.knd, by omega, hQ⟩
    refine y_asg tal fm10.c fun xa Hs11 H11 f11 hxa => ?_
    dsimp only
    have e11 := e10.trans f11.b
    have lim := evd_lcM (K := K) (σ := [some (.ref sa), some (.int (M.many : Int)), some y2, some m, some g, some k, some (.ref d), some u, some f, b9, b10, b11, some xa, none, none, none, none, none, none]) (H := Hs11) (vs := [17]) (te := tDGet2 (tVar 12) (tVar 17) (tC (.int 0))) M.kinds (fun kd => (entS (alD (alOf sc M.kinds)) (Sum.inr kd)).getD (.int 0)) (wk_listA M.kinds .str (j := 17) (kV e11 rfl)) (by omega) fun i kd σ2 H' hi e hS => by
      obtain ⟨y, ⟨o', e1, p1⟩, rfl⟩ := hS
      rw [hi] at e1
      cases e1
      have := dp_str p1
      subst this
      exact ⟨rfl, evd_sget2 (k := Sum.inr kd) (evp_of (P := DkR K (alD (alOf sc M.kinds))) (ev_var (i := 12) (v := xa) rfl) fun _ e' => (hxa.ex (e.trans e')).r) (ev_var (i := 17) (v := .str kd) rfl) (evd_c (.int 0))⟩
    have el : M.kinds.map (fun kd => (entS (alD (alOf sc M.kinds)) (Sum.inr kd)).getD (.int 0)) = (limitsOf M.kinds (alOf sc M.kinds)).map dO := by
      unfold limitsOf
      rw [List.map_map]
      refine List.map_congr_left fun kd _ => ?_
      rw [entS_al]
      show ((getA (alOf sc M.kinds) kd).map dO).getD (.int 0) = dO ((getA (alOf sc M.kinds) kd).getD (some 0))
      cases getA (alOf sc M.kinds) kd <;> rfl
    rw [el] at lim
    refine y_asg lim f11.c fun xl Hs12 H12 f12 hxl => ?_
    dsimp only
    have e12 := e11.trans f12.b
    have hol : Ev (tCall (spHolds K) [] E0 (tCons (tVar 3) (tCons (tVar 4) (tCons (tVar 12) tNil)))) [some (.ref sa), some (.int (M.many : Int)), some y2, some m, some g, some k, some (.ref d), some u, some f, b9, b10, b11, some xa, some xl, none, none, none, none, none] Hs12 (.bl (!((LFvecs W gs).any fun v => belowO v (limitsOf M.kinds (alOf sc M.kinds))))) := by
      refine evb_call (R := fun vs H2 => ∃ x y z, vs = [x, y, z] ∧ MacAt K M x H2 ∧ Dp K H2 y (.tuple (gs.map .int)) ∧ DkAt K (alD (alOf sc M.kinds)) z H2) (eap3 (mV e12 rfl) (fun _ _ _ e h => MacAt.ex e h) (gV e12 rfl) (fun _ _ _ => dp_mono _ _ _) (evp_of (P := DkAt K (alD (alOf sc M.kinds))) (ev_var (i := 12) (v := xa) rfl) fun _ e' => hxa.ex (f12.b.trans e'))) fun Hs' H' _ ex vs hvs Q' hQ => ?_
      obtain ⟨x, y, z, rfl, h1, h2, h3⟩ := hvs
      refine ⟨Hs', x, y, z, M, gs, _, rfl, ex, h1, O, h2, hgo, hgl, h3, alo, fun W' H2 D' e2 => ?_⟩
      rw [holds_eq O D D']
      exact hQ H2 e2
    have anyw := evd_lcM (K := K) (σ := [some (.ref sa), some (.int (M.many : Int)), some y2, some m, some g, some k, some (.ref d), some u, some f, b9, b10, b11, some xa, some xl, none, none, none, none, none]) (H := Hs12) (vs := [9]) (te := tCall (spBelow K) [] E0 (tCons (tVar 9) (tCons (tVar 13) tNil))) (LFvecs W gs) (fun v => PyData.bool (belowO v (limitsOf M.kinds (alOf sc M.kinds)))) (wk_listA (LFvecs W gs) dV (j := 9) (uV e12 rfl)) (by omega) fun i o σ2 H' hi e hS => by
      obtain ⟨y, ⟨o', e1, p1⟩, rfl⟩ := hS
      rw [hi] at e1
      cases e1
      refine ⟨rfl, evd_bl (ev_within (t := false) (evd_var (i := 9) (v := y) rfl p1) (evd_var (i := 13) (v := xl) rfl (dp_ex e hxl)) (by rw [ul o (List.mem_of_getElem? hi)]; omega))⟩
    have em : (LFvecs W gs).map (fun v => PyData.bool (belowO v (limitsOf M.kinds (alOf sc M.kinds)))) = ((LFvecs W gs).map fun v => belowO v (limitsOf M.kinds (alOf sc M.kinds))).map PyData.bool := by rw [List.map_map]; rfl
    rw [em] at anyw
    have t13 := et_test (ev_neB hol (ev_notV (ev_any anyw)))
    have b13 : (!(((LFvecs W gs).map fun v => belowO v (limitsOf M.kinds (alOf sc M.kinds))).any id)) = !((LFvecs W gs).any fun v => belowO v (limitsOf M.kinds (alOf sc M.kinds))) := by
      rw [List.any_map]
      rfl
    rw [b13] at t13
    refine y_if t13 f12.c (fun hb => by simp at hb) fun _ H13 e13 => ?_
    refine y_next ?_
    dsimp only
    clear t13 hol anyw lim tal
    have c13 : Ex Hs12 H13 := f12.c.trans e13
    -- what follows behind the spoilt evidence
    refine y_ifK (J := fun σ' H' => ∃ Hs' z14 z15, Ex Hs6 Hs' ∧ Ex Hs' H' ∧ σ' = [some (.ref sa), some (.int (M.many : Int)), some y2, some m, some g, some k, some (.ref d), some u, some f, b9, b10, b11, some xa, some xl, z14, z15, none, none, none]) (fun σ' H' hj => ?_) fun D' hD => ?_
    · obtain ⟨Hs14, z14, z15, e14, c14, rfl⟩ := hj
      dsimp only
      have tk := ev_neD (K := K) (kV (σ := [some (.ref sa), some (.int (M.many : Int)), some y2, some m, some g, some k, some (.ref d), some u, some f, b9, b10, b11, some xa, some xl, z14, z15, none, none, none]) e14 rfl) (evd_lst (ds := []) ead_nil (by decide)) (shaped_Strs M.kok) (by rfl)
      rw [eqv_Strs_nil] at tk
      have t15 := et_and (et_test tk) fun hb => et_not (et_B (evb_call1' (K := K) (E := E0) (R := rRaised K) (b := true) (eap3 (mV (σ := [some (.ref sa), some (.int (M.many : Int)), some y2, some m, some g, some k, some (.ref d), some u, some f, b9, b10, b11, some xa, some xl, z14, z15, none, none, none]) e14 rfl) (fun _ _ _ e h => MacAt.ex e h) (gV e14 rfl) (fun _ _ _ => dp_mono _ _ _) (fV e14 rfl)) fun vs Hs0 h => by
        obtain ⟨x, y, z, rfl, h1, h2, h3⟩ := h
        exact ⟨x, y, z, M, gs, W, rfl, h1, O, h2, hgo, hgl, hgs, D, h3, by simpa using hb, rfl⟩))
      refine y_if t15 c14 (fun hb => by simp at hb) fun _ H15 e15 => ?_
      refine y_next ?_
      dsimp only
      refine y_for (wk_tup (j := 16) (ds := [PyData.tuple [.int (M.many : Int)], .tuple [.int 1, .int 0], .list [.int 0], .tuple [.bool true], .tuple [.int 0, .int 0], .none]) (σ := [some (.ref sa), some (.int (M.many : Int)), some y2, some m, some g, some k, some (.ref d), some u, some f, b9, b10, b11, some xa, some xl, z14, z15, none, none, none])
        (evd_tup (H := Hs14) (ead_cons (evd_tup (ead_cons (evd_var (i := 1) (v := .int (M.many : Int)) rfl (.int _)) ead_nil) (by show 1 ≤ 100000; decide)) (ead_cons (evd_tup (ead_cons (evd_c (.int 1)) (ead_cons (evd_c (.int 0)) ead_nil)) (by show 2 ≤ 100000; decide)) (ead_cons (evd_lst (ead_cons (evd_c (.int 0)) ead_nil) (by show 1 ≤ 100000; decide)) (ead_cons (evd_tup (ead_cons (evd_c (.bl true)) ead_nil) (by show 1 ≤ 100000; decide))
          (ead_cons (evd_tup (ead_cons (evd_c (.int 0)) (ead_cons (evd_c (.int 0)) ead_nil)) (by show 2 ≤ 100000; decide)) (ead_cons (evd_c .non) ead_nil)))))) (by show 6 ≤ 100000; decide))) (c14.trans e15)
        (fun i σ' Hs' H' => Ex Hs6 Hs' ∧ ∃ a, σ' = [some (.ref sa), some (.int (M.many : Int)), some y2, some m, some g, some k, some (.ref d), some u, some f, b9, b10, b11, some xa, some xl, z14, z15, a, none, none])
        (fun Hs' H' f => ⟨e14.trans f.b, none, rfl⟩) (fun i σ' Hs' H' hi fm iv σ5 Hs16 H16 f16 hS N hN => ?_) fun σ' Hs16 H16 fm16 iv => ?_
      · obtain ⟨ex, a16, rfl⟩ := iv
        obtain ⟨v, ⟨dd, hdd, pv⟩, rfl⟩ := hS
        have hbad := bad_in M.many dd (List.mem_of_getElem? hdd)
        have e16 := ex.trans f16.b
        have l16 : ∀ ds, dd = .tuple ds → ds.length ≤ 4 := fun ds e => by
          have := List.mem_of_getElem? hdd
          rw [e] at this
          simp only [List.mem_cons, PyData.tuple.injEq, List.not_mem_nil, or_false, reduceCtorEq, false_or] at this
          rcases this with q | q | q | q <;> rw [q] <;> simp
        refine ⟨m, rfl, v, rfl, Hs16, m, v, M, dd, rfl, f16.c, M6.ex e16, O, pv, l16, fun gs' _ hok => absurd hok (by rw [hbad]; decide), fun _ H17 e17 => ⟨true, T.badm, fun _ a ha => ?_, fun q => nomatch q⟩⟩
        have ff := f16.trans (Fw.skip f16.c e17)
        exact hN _ Hs16 _ ff.m ⟨e16, _, rfl⟩
      · obtain ⟨ex, a16, rfl⟩ := iv
        dsimp only
        exact y_ret (evd_c (K := K) (.bl true)) fm16.c fun v Hs17 H17 f17 hv => by
          rw [dp_bl hv]
          exact kQ _
    · have t14 := et_test (ev_neVs (K := K) (m := []) (uV (σ := [some (.ref sa), some (.int (M.many : Int)), some y2, some m, some g, some k, some (.ref d), some u, some f, b9, b10, b11, some xa, some xl, none, none, none, none, none]) e12 rfl) (evd_lst (ds := []) ead_nil (by decide)))
      refine y_if t14 c13 (fun hb H14 e14 => ?_) fun hb H14 e14 => ?_
      · have une : LFvecs W gs ≠ [] := of_decide_eq_true hb
        have upos : 0 < (LFvecs W gs).length := List.length_pos_iff.mpr une
        have dr := drawI_range sc 330 (many := ((LFvecs W gs).length : Int)) (by omega)
        obtain ⟨i, hi, hil⟩ : ∃ i : Nat, drawI sc 330 ((LFvecs W gs).length : Int) = (i : Int) ∧ i < (LFvecs W gs).length := ⟨(drawI sc 330 ((LFvecs W gs).length : Int)).toNat, by omega, by omega⟩
        have d14 := ev_draw (K := K) (a := 330) (xV (σ := [some (.ref sa), some (.int (M.many : Int)), some y2, some m, some g, some k, some (.ref d), some u, some f, b9, b10, b11, some xa, some xl, none, none, none, none, none]) e12 rfl) (ev_c (v := .int 330)) (uL e12 rfl) l60 (by decide) (by omega)
        rw [hi] at d14
        have c14 : Ex Hs12 H14 := c13.trans e14
        refine y_asg (P := fun v _ => v = .int (i : Int)) (evp_of d14 fun _ _ => rfl) c14 fun v14 Hs14 H15 f14 hv => ?_
        subst hv
        dsimp only
        have e14' := e12.trans f14.b
        have iV : ∀ {σ : L2.St} {H0 : Hp}, σ[14]? = some (some (.int (i : Int))) → Ev (tVar 14) σ H0 (.int (i : Int)) := fun h => ev_var h
        have rl : (LFruns M W gs).length ≤ 5000 := AK.rl
        have sub : ∀ v ∈ (LFvecs W gs).take i ++ (LFvecs W gs).drop (i + 1), v ∈ LFvecs W gs := fun v hv => by
          rcases List.mem_append.mp hv with z | z
          · exact List.mem_of_mem_take z
          · exact List.mem_of_mem_drop z
        have subr : ∀ r ∈ (LFruns M W gs).take i ++ (LFruns M W gs).drop (i + 1), r ∈ LFruns M W gs := fun v hv => by
          rcases List.mem_append.mp hv with z | z
          · exact List.mem_of_mem_take z
          · exact List.mem_of_mem_drop z
        -- one vector less
        have A1 : AskOk M gs ((LFvecs W gs).take i ++ (LFvecs W gs).drop (i + 1)) ((LFruns M W gs).take i ++ (LFruns M W gs).drop (i + 1)) (tableL W.costs) := ⟨hgl, hgo, AK.tab, AK.nd, by rw [List.length_append, List.length_take, List.length_drop]; omega, fun v hv => ul v (sub v hv), by rw [List.length_append, List.length_take, List.length_drop]; omega, fun r hr => AK.run r (subr r hr)⟩
        have s1 := sh (σ := [some (.ref sa), some (.int (M.many : Int)), some y2, some m, some g, some k, some (.ref d), some u, some f, b9, b10, b11, some xa, some xl, some (.int (i : Int)), none, none, none, none]) e14' A1 (evp_leastA (E := E0) (tv := false) (tr := false) A1 (evd_cutOut (uV e14' rfl) (iV rfl) (by omega)) (evd_cutOut (evd_lruns T (fV e14' rfl)) (iV rfl) rl) (evp_lcosts T (fV e14' rfl))) rfl rfl
        rw [show_drop O D hil] at s1
        refine y_if (et_B s1) f14.c (fun hb => by cases hb) fun _ H16 e16 => ?_
        refine y_next ?_
        dsimp only
        have c16 : Ex Hs14 H16 := f14.c.trans e16
        -- one run less
        have A2 : AskOk M gs (LFvecs W gs) ((LFruns M W gs).take i ++ [[]] ++ (LFruns M W gs).drop (i + 1)) (tableL W.costs) := ⟨hgl, hgo, AK.tab, AK.nd, AK.ul, AK.one, by rw [List.length_append, List.length_append, List.length_take, List.length_drop, List.length_singleton]; omega, fun r hr => by
          rcases List.mem_append.mp hr with z | z
          · rcases List.mem_append.mp z with z | z
            · exact AK.run r (List.mem_of_mem_take z)
            · rw [List.mem_singleton.mp z]
              exact ⟨trivial, Nat.zero_le _⟩
          · exact AK.run r (List.mem_of_mem_drop z)⟩
        have s2 := sh (σ := [some (.ref sa), some (.int (M.many : Int)), some y2, some m, some g, some k, some (.ref d), some u, some f, b9, b10, b11, some xa, some xl, some (.int (i : Int)), none, none, none, none]) e14' A2 (evp_leastA (E := E0) (tv := false) (tr := false) A2 (uV e14' rfl) (evd_cutIn (enc := dRun) (x := []) (evd_lruns T (fV e14' rfl)) (iV rfl) (evd_lst (ds := []) ead_nil (by decide)) rl) (evp_lcosts T (fV e14' rfl))) rfl rfl
        have hui : ((LFvecs W gs).map dV)[i]? = some (dV (LFvecs W gs)[i]) := by rw [List.getElem?_map, List.getElem?_eq_getElem hil]; rfl
        have s2r := ev_andV (ev_eqV (evd_ixL (uV (σ := [some (.ref sa), some (.int (M.many : Int)), some y2, some m, some g, some k, some (.ref d), some u, some f, b9, b10, b11, some xa, some xl, some (.int (i : Int)), none, none, none, none]) e14' rfl) (iV rfl) hui) (evd_repN0 (K := K) (kL e14' rfl) (by omega))) fun _ => ev_inTI (K := K) (neg := false) (ev_c (v := .int 0)) (gV e14' rfl)
        have t2 := et_test (ev_neB s2 s2r)
        rw [show_nil O D hil] at t2
        refine y_if t2 c16 (fun hb => by simp [zeroV] at hb; exact absurd rfl hb) fun _ H17 e17 => ?_
        refine y_next ?_
        dsimp only
        have c17 : Ex Hs14 H17 := c16.trans e17
        -- a table without the start
        refine y_asg (evp_costs2 (K := K) (g := 0) (l := []) (tg := tC (.int 0)) (tm := tLst tNil) (σ := [some (.ref sa), some (.int (M.many : Int)), some y2, some m, some g, some k, some (.ref d), some u, some f, b9, b10, b11, some xa, some xl, some (.int (i : Int)), none, none, none, none]) AK.nd AK.tab.few (evp_lcosts T (fV e14' rfl)) (ev_c (v := .int 0)) (evd_lst (ds := []) ead_nil (by decide))) c17 fun v15 Hs15 H18 f15 hv15 => ?_
        dsimp only
        have e15 := e14'.trans f15.b
        have A3 : AskOk M gs (LFvecs W gs) (LFruns M W gs) (putA (tableL W.costs) 0 []) := ⟨hgl, hgo, less_ok O AK.tab (Nat.le_trans (tableL_len _) (Nat.le_trans (D.inv.cle O) (by decide))), putA_nodup AK.nd _ _, AK.ul, AK.one, AK.rl, AK.run⟩
        have s3 := sh (σ := [some (.ref sa), some (.int (M.many : Int)), some y2, some m, some g, some k, some (.ref d), some u, some f, b9, b10, b11, some xa, some xl, some (.int (i : Int)), some v15, none, none, none]) e15 A3 (evp_leastA (E := E0) (tv := false) (tr := false) A3 (uV e15 rfl) (evd_lruns T (fV e15 rfl)) (evp_of (P := DictX K (costsD (putA (tableL W.costs) 0 []))) (ev_var (i := 15) (v := v15) rfl) fun _ e' => hv15.ex e')) rfl rfl
        have s4 := sh (σ := [some (.ref sa), some (.int (M.many : Int)), some y2, some m, some g, some k, some (.ref d), some u, some f, b9, b10, b11, some xa, some xl, some (.int (i : Int)), some v15, none, none, none]) e15 AK (evp_leastA (E := E0) (tv := true) (tr := true) AK (evd_tupleOf (uV e15 rfl)) (evd_tupleOf (evd_lruns T (fV e15 rfl))) (evp_lcosts T (fV e15 rfl))) rfl rfl
        rw [show_less] at s3
        rw [show_true O D] at s4
        refine y_if (et_or (et_B s3) fun _ => et_not (et_B s4)) f15.c (fun hb => by cases hb) fun _ H19 e19 => ?_
        refine y_next ?_
        exact hD _ _ ⟨Hs15, _, _, e15, f15.c.trans e19, rfl⟩
      · refine y_next ?_
        exact hD _ _ ⟨Hs12, none, none, e12, c13.trans e14, rfl⟩
end
end K02
set_option Elab.async false
set_option linter.all false
set_option maxRecDepth 100000
set_option maxHeartbeats 0
/-! ### the head: all facts -/
namespace K02
open PySem PySem.Spec PyProof.Rows L2
abbrev fLI (K : PySem.W.Frag) : Addr := He.ma K (He.ga K "Least") "__init__"
abbrev fTI (K : PySem.W.Frag) : Addr := He.ma K (He.ga K "Tabled") "__init__"
def fa : List He.Fa := globs.map He.Fa.glo ++ frees.map He.Fa.free ++ classes.map He.Fa.cls ++ noats.map (fun p => He.Fa.noat p.1 p.2) ++ meths.map (fun p => He.Fa.meth p.1 p.2) ++ classes.map He.Fa.mkr ++ [.int "MOST_STATES" 3000, .int "MOST_LETTERS" 8, .exc "BadStates", .exm "BadStates" "BadStates" true]
abbrev FnS : Type := Option (Str × Str × Arguments × FuncBody × Scope × Addr × List Str × Addr)
def fnS (K : PySem.W.Frag) : FnS := match K.lookup (fLI K) with
  | some ⟨_, _, .func fd, _⟩ => some (fd.name, fd.qualname, fd.params, fd.body, fd.scope, fd.globals, fd.closure.map (·.1), fd.builtins)
  | _ => none
def valS : FnS := some ("__init__", "Least.__init__", defArgs sLeastI, .stmts (defBody sLeastI), defScope sLeastI, mainGlobals, ["__class__"], builtinsNs)
def isNone : Value → Bool
  | .none => true
  | _ => false
def fileB (file : Str) (K : PySem.W.Frag) (c : Addr) : Bool := match K.lookup c with
  | some ⟨_, _, .fields vs, _⟩ => (match (vs[2]? : Option Value) with
    | some (Value.str z _) => (file == z)
    | _ => false)
  | _ => false
def cellB (K : PySem.W.Frag) (c : Addr) (D : Addr) : Bool := match K.lookup c with
  | some ⟨_, _, .cell (some (.ref a)), _⟩ => decide (a = D)
  | _ => false
def supB (file : Str) (K : PySem.W.Frag) : Bool := match K.lookup (fLI K) with
  | some ⟨_, _, .func fd, _⟩ => isNone fd.defaults && (isNone fd.kwdefaults && ((match fd.code with
      | .ref c => PySem.W.codeIn K (.ref c) "Least.__init__" && fileB file K c
      | _ => false) && (match fd.closure with
      | [q] => cellB K q.2 (He.ga K "Least")
      | _ => false)))
  | _ => false
def exS (file : Str) (K : PySem.W.Frag) : List Bool := [supB file K, PySem.W.keepIn K (.ref (fLI K)), (PySem.W.clsIn K (He.ga K "Least")).isSome, decide (PySem.W.mroIn K (He.ga K "Least") (.ref (He.ga K "Least")) = some true),
  He.eqO (PySem.W.nsIn K cStatics "thirdparty.any") (some none), He.eqO (PySem.W.ks_superIn K (He.ga K "Least") (He.ga K "Least") "__init__") (some (some (.ref (fTI K)))), decide (PySem.W.typeIn K (.ref (fTI K)) = some (.type "function")), PySem.W.fnIn K (fTI K),
  He.eqO (PySem.W.findIn K (.ref (He.ga K "Adder")) "__call__") (some (some (.ref (He.ma K (He.ga K "Adder") "__call__")))), PySem.W.isFn K (.ref (He.ma K (He.ga K "Adder") "__call__")), PySem.W.fnIn K (He.ma K (He.ga K "Adder") "__call__")]
def asS (g : Addr → Option Obj) : List Addr := He.asD g 4 ++ (cStatics :: (match (He.frG g (He.asD g 4)).lookup (fLI (He.frG g (He.asD g 4))) with
  | some ⟨_, _, .func fd, _⟩ => fd.closure.map (·.2)
  | _ => []))
abbrev AlS : Type := He.AlD × FnS × List Bool
abbrev lawP : Program := PySem.Challenge.pw_allbrokers_k02_whole_least_falls
def obsK (K : PySem.W.Frag) : AlS := (He.obsD fa fn K, fnS K, exS lawP.main.file K)
def obsS (g : Addr → Option Obj) : AlS := obsK (He.frG g (asS g))
def valK : AlS := (He.valD fn, valS, List.replicate 11 true)
def hookS : PySem.W.Hook where
  α := AlS
  obs := fun s => obsS s.heap.get?
  val := fun _ => valK
  says := fun _ h => ∃ K : PySem.W.Frag, K.In h ∧ obsK K = valK
  of := fun _ _ e => ⟨_, He.frG_in, e⟩
  keeps := fun _ _ _ ⟨K, hK, c⟩ k => ⟨K, PySem.W.Frag.In.keeps hK k, c⟩
theorem obsS_eq {g : Addr → Option Obj} {s : Shared} (h : ∀ a, g a = s.heap.get? a) : obsS g = hookS.obs s := by
  have e : g = s.heap.get? := funext h
  rw [e] <;> rfl
abbrev R : PySem.W.OpenRow := PySem.W.OpenLaw.row PySem.Challenge.rw_allbrokers_k02_whole_least_falls
abbrev hk : PySem.W.Hook := hookS
def ob (s : PySem.W.SharedT) : AlS := obsS (HandSHeadRun.getT s)
theorem ob_eq (s : PySem.W.SharedT) : ob s = hk.obs s.abs := obsS_eq (HandSHeadRun.getT_eq s)
def names1 : List Str := ["_wall", "BrokerError", "BadMachine", "BadStates", "BadRun", "BadAllowances", "is_below", "is_least", "Evidence", "Tabled", "MOST_STATES", "MOST_LETTERS", "is_number", "is_word", "is_step", "Machine", "check_state", "check_states", "last_state", "is_within", "least_of", "falls_of", "check_allowances", "limits_of", "Adder", "Ways", "is_table", "Least", "least_falls", "holds_for"]
def names2 : List Str := ["_law_draw", "_law_machine", "_law_some", "_law_vectors", "_law_least", "_law_run_right", "_law_falls", "_law_below", "_law_closed", "_law_allowances", "_law_limits", "_law_raised_right"]
def names : List Str := names1 ++ names2
theorem run (w : World) : HandSHeadRun.RunEq R (PySem.W.view R.prog [48]) hk ob 20000 names w := by
  intro os
  kernel_rfl
end K02
set_option Elab.async false
set_option linter.all false
set_option maxRecDepth 100000
set_option maxHeartbeats 1000000
/-! ### from the head's facts: G, SupF -/
namespace K02
open PySem PySem.Spec PyProof.Rows L2
theorem exS_all {file : Str} {K : PySem.W.Frag} (h : exS file K = List.replicate 11 true) : ∀ b ∈ exS file K, b = true := fun b hb => by
  rw [h] at hb
  exact (List.mem_replicate.mp hb).2
theorem g_of {K : PySem.W.Frag} {h : Heap} {mg : Str → Option Value} (X : K.In h) (Gm : h.Ns mainGlobals mg) (c0 : obsK K = valK) : G K mg := by
  have c : He.SaysD fa fn K := congrArg (fun z : AlS => z.1) c0
  have ex := exS_all (congrArg (fun z : AlS => z.2.2) c0)
  have fc : ∀ {f : He.Fa}, f ∈ fa → f.ok K = true := fun hf => He.SaysD.facts c hf
  have m : ∀ {f : He.Fa}, (f ∈ globs.map He.Fa.glo ∨ f ∈ frees.map He.Fa.free ∨ f ∈ classes.map He.Fa.cls ∨ f ∈ noats.map (fun p => He.Fa.noat p.1 p.2) ∨ f ∈ meths.map (fun p => He.Fa.meth p.1 p.2) ∨ f ∈ classes.map He.Fa.mkr ∨ f ∈ [He.Fa.int "MOST_STATES" 3000, .int "MOST_LETTERS" 8, .exc "BadStates", .exm "BadStates" "BadStates" true]) → f ∈ fa := fun {f} q => by
    unfold fa
    simp only [List.mem_append]
    rcases q with q | q | q | q | q | q | q
    · exact .inl (.inl (.inl (.inl (.inl (.inl q)))))
    · exact .inl (.inl (.inl (.inl (.inl (.inr q)))))
    · exact .inl (.inl (.inl (.inl (.inr q))))
    · exact .inl (.inl (.inl (.inr q)))
    · exact .inl (.inl (.inr q))
    · exact .inl (.inr q)
    · exact .inr q
  refine ⟨fun x hx => He.free_ok X Gm (fc (m (.inr (.inl (List.mem_map_of_mem hx))))), fun x hx => He.glo_ok X Gm (fc (m (.inl (List.mem_map_of_mem hx)))), fun d hd => ?_, He.int_ok X Gm (fc (m (.inr (.inr (.inr (.inr (.inr (.inr (by simp))))))))), He.int_ok X Gm (fc (m (.inr (.inr (.inr (.inr (.inr (.inr (by simp)))))))))
    , fun C hC => He.cls_ok (fc (m (.inr (.inr (.inl (List.mem_map_of_mem hC)))))), fun p hp => He.noat_ok (fc (m (.inr (.inr (.inr (.inl (List.mem_map_of_mem (f := fun p : Str × Str => He.Fa.noat p.1 p.2) hp)))))))
    , fun p hp => He.meth_ok (fc (m (.inr (.inr (.inr (.inr (.inl (List.mem_map_of_mem (f := fun p : Str × Str => He.Fa.meth p.1 p.2) hp)))))))), fun C hC => He.mkr_ok (fc (m (.inr (.inr (.inr (.inr (.inr (.inl (List.mem_map_of_mem hC))))))))), ⟨He.eqO_ok (ex _ (by simp [exS])), ex _ (by simp [exS]), ex _ (by simp [exS])⟩
    , He.exc_ok (fc (m (.inr (.inr (.inr (.inr (.inr (.inr (by simp))))))))), He.exm_ok (fc (m (.inr (.inr (.inr (.inr (.inr (.inr (by simp)))))))))⟩
  exact He.SaysD.defs c hd
theorem isNone_ok {v : Value} (h : isNone v = true) : v = .none := by
  cases v <;> first | rfl | cases h
theorem cellB_ok {K : PySem.W.Frag} {c D : Addr} (h : cellB K c D = true) : ∃ (cl : Value) (cld : Option Addr) (csl : Array (Option Value)), K.lookup c = some ⟨cl, cld, .cell (some (.ref D)), csl⟩ := by
  unfold cellB at h
  split at h
  · rename_i a b d e hl
    have := of_decide_eq_true h
    subst this
    exact ⟨_, _, _, hl⟩
  · cases h
theorem fileB_ok {file : Str} {K : PySem.W.Frag} {c : Addr} (h : fileB file K c = true) : ∃ (ccl : Value) (cdd : Option Addr) (vs : Array Value) (ccs : Array (Option Value)) (z : Str) (tf : Tok), K.lookup c = some ⟨ccl, cdd, .fields vs, ccs⟩ ∧ vs[2]? = some (.str z tf) ∧ (file == z) = true := by
  unfold fileB at h
  split at h
  · rename_i a b vs e hl
    split at h
    · rename_i z t hz
      exact ⟨_, _, vs, _, z, t, hl, hz, h⟩
    · cases h
  · cases h
theorem sup_of {K : PySem.W.Frag} (c0 : obsK K = valK) : SupF lawP K := by
  have c1 : fnS K = valS := congrArg (fun z : AlS => z.2.1) c0
  have ex := exS_all (congrArg (fun z : AlS => z.2.2) c0)
  have h1 : supB lawP.main.file K = true := ex _ (by simp [exS])
  have e4 : decide (PySem.W.mroIn K (He.ga K "Least") (.ref (He.ga K "Least")) = some true) = true := ex _ (by simp [exS])
  have e3 : (PySem.W.clsIn K (He.ga K "Least")).isSome = true := ex _ (by simp [exS])
  have e7 : decide (PySem.W.typeIn K (.ref (fTI K)) = some (.type "function")) = true := ex _ (by simp [exS])
  refine ⟨?_, ex _ (by simp [exS]), Option.isSome_iff_exists.mp e3, of_decide_eq_true e4, He.eqO_ok (ex _ (by simp [exS])), He.eqO_ok (ex _ (by simp [exS])), of_decide_eq_true e7, ex _ (by simp [exS]), by decide +kernel⟩
  unfold supB at h1
  unfold fnS at c1
  cases q : K.lookup (fLI K) with
  | none => rw [q] at h1; cases h1
  | some o =>
    obtain ⟨oc, od, dt, osl⟩ := o
    rw [q] at h1 c1
    cases dt with
    | func fd =>
      obtain ⟨n1, n2, n3, n4, n5, n6, n7, n8, n9, n10, n11, n12, n13, n14, n15⟩ := fd
      have e2 : (some (n1, n2, n3, n4, n5, n6, n7.map (·.1), n15) : FnS) = (some ((("__init__" : Str), ("Least.__init__" : Str), defArgs sLeastI, FuncBody.stmts (defBody sLeastI), defScope sLeastI, mainGlobals, [("__class__" : Str)], builtinsNs)) : FnS) := c1
      simp only [Option.some.injEq, Prod.mk.injEq] at e2
      obtain ⟨k1, k2, k3, k4, k5, k6, k7, k8⟩ := e2
      subst k1 k2 k3 k4 k5 k6 k8
      dsimp only at h1
      obtain ⟨a1, h1⟩ := He.ba h1
      obtain ⟨a2, h1⟩ := He.ba h1
      obtain ⟨a3, a4⟩ := He.ba h1
      have := isNone_ok a1
      subst this
      have := isNone_ok a2
      subst this
      cases n13 with
      | ref cda =>
        obtain ⟨b1, b2⟩ := He.ba a3
        cases n7 with
        | nil => cases a4
        | cons p l =>
          cases l with
          | cons _ _ => cases a4
          | nil =>
            obtain ⟨x, cc⟩ := p
            have : x = "__class__" := by simpa using k7
            subst this
            exact ⟨od, n10, n11, n12, cda, n14, cc, osl, oc, rfl, b1, fileB_ok b2, cellB_ok a4⟩
      | _ => cases a3
    | _ => cases h1
end K02
set_option Elab.async false
set_option linter.all false
set_option maxRecDepth 100000
set_option maxHeartbeats 0
namespace K02
open PySem PySem.Spec PyProof.Rows L2
theorem facts {w : World} {K : PySem.W.Frag} {h : Heap} {mg : Str → Option Value} {f : Addr} (X : K.In h) (Gm : h.Ns mainGlobals mg) (hfa : mg ("law" : Str) = some (.ref f)) (c : obsK K = valK) :
    ∃ fd : FuncData, (∀ (s : Shared) (v : Value), BindsTo s fd ⟨[v], []⟩ [("_law_script", v)]) ∧ ∀ base : Heap, K.In base → base.Ns mainGlobals mg → FnOk lawP w K mg base CX0 7 f fd ["_law_script"] (spLaw K) := by
  have T := g_of X Gm c
  have S := sup_of c
  obtain ⟨fd, F⟩ := T.fun0 38
  have e := hfa.symm.trans (T.gl "law")
  cases e
  have b := FunD.bindsA (ps := ["_law_script"]) F fun _ _ _ _ _ _ us hl => match us, hl with | [_], _ => rfl
  exact ⟨fd, fun s v => b s [v] rfl, fun base _ _ => ok_law T S F⟩
end K02
open PySem PySem.W PySem.Calls PyProof.Rows
theorem PySem.Challenge.cw_allbrokers_k02_whole_least_falls_holds : PySem.Challenge.rw_allbrokers_k02_whole_least_falls.Holds := by
  w_on; o_law
  refine HandSHeadRun.head_any (r := K02.R) (q := view K02.R.prog [48]) (H := K02.hk) (ob := K02.ob) (M := 20000) (loose := K02.names) (d := HandSHeadRun.topDef K02.R.prog 48) (kwd := []) K02.ob_eq
    (by kernel_rfl) (fun s => by kernel_rfl) K02.run (by kernel_rfl) (by kernel_rfl) (by kernel_rfl) (by rfl) (by first | assumption | decide +kernel) (by decide +kernel) ⟨rfl, rfl, rfl, rfl, rfl, by decide +kernel⟩ ?hw ?hc
  case hw => w_witness2
  case hc =>
    refine L2.walk_ofE (l := PySem.Challenge.rw_allbrokers_k02_whole_least_falls) (n := 63) (k := 7) (x := "_law_script") (CX := L2.CX0) rfl (by decide) (by kernel_rfl) ⟨rfl, by decide, by decide⟩ ?F (fun _ _ _ _ z => z)
    intro w mg fa h Y G hmg0
    obtain ⟨K, KX, c⟩ := Y
    have hmg : mg ("law" : PySem.Str) = some (.ref fa) := by
      have e : (HandSHeadRun.topDef K02.R.prog 48).name = ("law" : PySem.Str) := by kernel_rfl
      rw [← e]
      exact hmg0
    obtain ⟨fd, hb, hF⟩ := K02.facts (w := w) KX G hmg c
    exact ⟨K, fd, K02.spLaw K, KX, hb, fun H a ns hl _ hS => ⟨a, ns, rfl, hS, hl, fun _ => rfl⟩, hF⟩
