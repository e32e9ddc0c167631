import PyProof.Rows.All
import HandS.ForMost
import HandS.Walk
import KE.GoesNew
import KE.GoesMore
import KE.GoesZip
import KE.GoesEnum
import HandS.ForExc
import HandS.Zip
import HandS.Wide
import HandS.Rev
import HandS.TupAny
import HandS.TupMul
import HandS.TupLe
import HandS.IsInst
import HandS.SortInts
import PyProof.Rows.RuleB_pow
import HandS.Style
import PyProof.CallFns
import KE.DataMinMax
import PyProof.SumAny
import Wide.All
import OpenK.AllK
import Wide.FinOn
import PySem.Challenge.RW_movedminutes_k05_whole_later_and_togethe
set_option Elab.async false
set_option linter.all false
set_option maxRecDepth 100000
set_option autoImplicit false
/-! ZI: zip and enumerate over rows of either kind (a tuple: true, a list: false). -/
namespace Zi
open PySem PySem.Spec PyProof.Rows L2
def Sq (K : PySem.W.Frag) (b : Bool) (H : Hp) (p : Addr) (xs : List V) : Prop := match b with
  | true => SqT K H p xs
  | false => SqL K H p xs
def SeqAt (b : Bool) (h : Heap) (p : Addr) (its : Array Value) : Prop := match b with
  | true => h.IsTuple p its
  | false => h.IsList p its
def IterAt (b : Bool) (h : Heap) (it p : Addr) (i : Nat) : Prop := match b with
  | true => h.IsTupleIter it p i
  | false => h.IsListIter it p i
def itObj (b : Bool) (p : Addr) : Obj := match b with
  | true => { cls := .type "tuple_iterator", data := .fields #[.ref p, .int 0 0] }
  | false => { cls := .type "list_iterator", data := .fields #[.ref p, .int 0 0] }
section
variable {X : Cx} {pins : List (Addr × Obj)} {σ : L2.St} {H : Hp} {s : Shared} {b : Bool} {p : Addr} {xs ys : List V}
theorem seq_of (I : Inv X pins σ H s) (h : Sq X.K b H p xs) : ∃ its : List Value, Vals xs its ∧ SeqAt b s.heap p its.toArray ∧ p < s.heap.objs.size := by
  cases b with
  | true => obtain ⟨its, r, q, _⟩ := I.tuple h; exact ⟨its, r, q, q.lt⟩
  | false => obtain ⟨its, r, q, _⟩ := I.list h; exact ⟨its, r, q.isList, q.lt⟩
theorem seq_inj (I : Inv X pins σ H s) (h : Sq X.K b H p xs) (h' : Sq X.K b H p ys) : xs = ys := by
  cases b with
  | true => exact I.tuple_inj h h'
  | false => exact I.list_inj h h'
theorem begins (b : Bool) (p : Addr) (its : Array Value) : Begins (.ref p) (itObj b p) (fun h => SeqAt b h p its) := by
  cases b with
  | true => exact begins_tuple p its
  | false => exact begins_list p its
theorem itObj_at {h : Heap} {it : Addr} (e : h.get? it = some (itObj b p)) : IterAt b h it p 0 := by
  cases b with
  | true => exact ⟨_, e, rfl, rfl⟩
  | false => exact ⟨_, e, rfl, rfl⟩
theorem draws {prog : Program} {w : World} {A : Around} (hh : A.handled = none) (b : Bool) (it l : Addr) (hne : l ≠ it) (items : Array Value) :
    Draws prog w A it [it, l] items.size (fun i v => items[i]? = some v) (fun i h => IterAt b h it l i ∧ SeqAt b h l items) := by
  cases b with
  | true => exact Draws.tuple hh it l hne items
  | false => exact Draws.list hh it l hne items
theorem IterAt.keep {h h' : Heap} {it l : Addr} {i : Nat} (x : IterAt b h it l i) (k : ∀ o, h.get? it = some o → h'.get? it = some o) : IterAt b h' it l i := by
  cases b with
  | true => exact Heap.IsTupleIter.at (show h.IsTupleIter it l i from x) k
  | false => exact Heap.IsListIter.at (show h.IsListIter it l i from x) k
theorem IterAt.obj {h : Heap} {it l : Addr} {i : Nat} (x : IterAt b h it l i) : ∃ o, h.get? it = some o ∧ ∀ v, o.data ≠ .cell v := by
  cases b with
  | true => obtain ⟨o, e, _, d⟩ := x; exact ⟨o, e, fun v q => by rw [d] at q; cases q⟩
  | false => obtain ⟨o, e, _, d⟩ := x; exact ⟨o, e, fun v q => by rw [d] at q; cases q⟩
end
/-! ### two -/
def It2 (K : PySem.W.Frag) (b1 b2 : Bool) (p q : Addr) : It :=
  ⟨fun i H => ∃ (xs ys : List V) (x y : V), Sq K b1 H p xs ∧ Sq K b2 H q ys ∧ xs[i]? = some x ∧ ys[i]? = some y,
   fun i H v H' => ∃ T x y, v = .ref T ∧ H T = none ∧ H' = upd H T (.tup [x, y]) ∧ (∀ xs, Sq K b1 H p xs → xs[i]? = some x) ∧ ∀ ys, Sq K b2 H q ys → ys[i]? = some y,
   fun i H => ∃ xs ys : List V, Sq K b1 H p xs ∧ Sq K b2 H q ys ∧ i ≤ xs.length ∧ i ≤ ys.length ∧ (i = xs.length ∨ i = ys.length)⟩
theorem turn2 {P : Program} {w : World} {K : PySem.W.Frag} {elts : List Expr} {kk : Nat} {tpos : Pos} {b1 b2 : Bool} {p q z TI TO i1 i2 : Addr} (S : ZipSep2 z TI TO i1 i2 [i1, p] [i2, q]) (hp : p ≠ i1) (hq : q ≠ i2) :
    Turn P w K (.Tuple elts kk tpos) (It2 K b1 b2 p q) [z, TI, TO, i1, i2] z
      (fun i h => IsZip h z TI TO .none ∧ IsTupOf2 h TI (.ref i1) (.ref i2) ∧ (∃ x y, IsTupOf2 h TO x y) ∧ IterAt b1 h i1 p i ∧ IterAt b2 h i2 q i) where
  mem := by simp
  obj := by
    rintro i h ⟨hz, hT, ⟨x, y, hO⟩, h1, h2⟩ c hc
    simp only [List.mem_cons, List.not_mem_nil, or_false] at hc
    rcases hc with rfl | rfl | rfl | rfl | rfl
    · exact ⟨_, hz, fun v q => nomatch q⟩
    · exact ⟨_, hT, fun v q => nomatch q⟩
    · exact ⟨_, hO, fun v q => nomatch q⟩
    · exact h1.obj
    · exact h2.obj
  keep := by
    rintro i h h' ⟨hz, hT, ⟨x, y, hO⟩, h1, h2⟩ k
    exact ⟨k z (by simp) _ hz, k TI (by simp) _ hT, ⟨x, y, k TO (by simp) _ hO⟩, h1.keep fun o e => k i1 (by simp) o e, h2.keep fun o e => k i2 (by simp) o e⟩
  item := by
    intro X hP hw hK hc i pins s σ H E I hf st hg
    subst hP hw hK
    obtain ⟨hz, hT, ⟨x0, y0, hO⟩, h1, h2⟩ := st
    obtain ⟨xs, ys, x, y, sx, sy, ex, ey⟩ := hg
    obtain ⟨its, rv, a1, _⟩ := seq_of I sx
    obtain ⟨jts, rw', a2, _⟩ := seq_of I sy
    obtain ⟨u, hu, ru⟩ := rv.get ex
    obtain ⟨v, hv, rv2⟩ := rw'.get ey
    have hh := I.ok.hd hc
    have hzl : z < s.heap.objs.size := Heap.lt_size hz
    have all : ∀ c, c ∈ [z, TI, TO, i1, i2] → c < s.heap.objs.size := fun c hcm => by
      simp only [List.mem_cons, List.not_mem_nil, or_false] at hcm
      rcases hcm with rfl | rfl | rfl | rfl | rfl
      · exact hzl
      · exact Heap.lt_size hT
      · exact Heap.lt_size hO
      · obtain ⟨o, e, _⟩ := h1.obj; exact Heap.lt_size e
      · obtain ⟨o, e, _⟩ := h2.obj; exact Heap.lt_size e
    refine wpAny_pyNext_zipD2_item S (draws (by exact hh) b1 i1 p hp its.toArray) (draws (by exact hh) b2 i2 q hq jts.toArray) hz hT hO ⟨h1, a1⟩ ⟨h2, a2⟩
      (by simpa using (List.getElem?_eq_some_iff.mp hu).1) (by simpa using (List.getElem?_eq_some_iff.mp hv).1) ?_
    intro x1 x2 h' tk e1 e2 hz' hO' st1 st2 hN hsz hk
    have e1 : x1 = u := by have := e1; simp [hu] at this; exact this.symm
    have e2 : x2 = v := by have := e2; simp [hv] at this; exact this.symm
    subst e1 e2
    refine ⟨_, rfl, wpAny_letOwnedTupleGo_zip (s := { s with heap := h', toks := tk }) hz' fun h'' hz'' sb => ?_⟩
    have hN2 : h''.get? s.heap.objs.size = some { cls := .type "tuple", data := .seq #[x1, x2] } := (sb.2 _ (Nat.ne_of_gt hzl)).trans hN
    have new : ObjOk X.prog X.w (upd H s.heap.objs.size (.tup [x, y])) h'' s.heap.objs.size (.tup [x, y]) :=
      ⟨by show 2 ≤ sizeLine; decide, [x1, x2], .cons ru (.cons rv2 .nil), ⟨_, hN2, rfl, _, rfl⟩⟩
    have I1 : Inv X pins σ (upd H s.heap.objs.size (.tup [x, y])) { s with heap := h'', toks := tk } := by
      refine I.turnedNew (ch := [z, TI, TO, i1, i2]) (fun c o hb e => ?_) hf (Nat.le_refl _) new
      simp only [List.mem_cons, List.not_mem_nil, or_false, not_or] at hb
      exact (sb.2 c hb.1).trans (hk c o hb.1 hb.2.2.1 hb.2.2.2.1 hb.2.2.2.2 e)
    refine ⟨.ref s.heap.objs.size, _, I1, rfl, ⟨_, x, y, rfl, I.hok.fresh (Nat.le_refl _), rfl, fun l hl => by rw [seq_inj I hl sx]; exact ex, fun l hl => by rw [seq_inj I hl sy]; exact ey⟩, ⟨hz'', ?_, ⟨x1, x2, ?_⟩, ?_, ?_⟩, fun c hcm => ?_⟩
    · exact (sb.2 _ S.TIz).trans (hk _ _ S.TIz S.TITO S.TIi1 S.TIi2 hT)
    · exact (sb.2 _ S.TOz).trans hO'
    · exact st1.1.keep fun o e => (sb.2 _ S.zi1.symm).trans e
    · exact st2.1.keep fun o e => (sb.2 _ S.zi2.symm).trans e
    · rw [upd_ne (Nat.ne_of_lt (all c hcm))]
      exact (hf c hcm).1
  done := by
    intro X hP hw hK hc i pins s σ H E I hf st hg
    subst hP hw hK
    obtain ⟨hz, hT, ⟨x0, y0, hO⟩, h1, h2⟩ := st
    obtain ⟨xs, ys, sx, sy, l1, l2, hend⟩ := hg
    obtain ⟨its, rv, a1, _⟩ := seq_of I sx
    obtain ⟨jts, rw', a2, _⟩ := seq_of I sy
    have hh := I.ok.hd hc
    have m1 := rv.length
    have m2 := rw'.length
    refine wpAny_pyNext_zipD2_end S (draws (by exact hh) b1 i1 p hp its.toArray) (draws (by exact hh) b2 i2 q hq jts.toArray) hz hT hO ⟨h1, a1⟩ ⟨h2, a2⟩
      (by simp; omega) (by simp; omega) (by simp; omega) fun h' tk hk => ⟨rfl, ?_⟩
    refine I.turnedL (ch := [z, TI, TO, i1, i2]) (fun c o hb e => ?_) hf
    simp only [List.mem_cons, List.not_mem_nil, or_false, not_or] at hb
    exact hk c o hb.1 hb.2.2.1 hb.2.2.2.1 hb.2.2.2.2 e
  self := fun A i s Q E st h => wpAny_pyIter_zip st.1 h
def iZ2 (K : PySem.W.Frag) (ta : TA) : TI := fun σ H R => ta σ H fun vs H1 => ∃ b1 b2 p q xs ys, vs = [.ref p, .ref q] ∧ Sq K b1 H1 p xs ∧ Sq K b2 H1 q ys ∧ R (It2 K b1 b2 p q) H1
theorem pi_z2 {X : Cx} {e e2 : Expr} {ta : TA} {ps pos tpos : Pos} {elts : List Expr} {kk : Nat} (hm : X.mg "zip" = none) (ha : PA X [e, e2] ta) (hg : Gl X "zip" := by rfl)
    (hs : starEach [e, e2] X.env = (false, eval e X.env) :: starEach [e2] X.env := by rfl) (hpl : (backTo pos (starEach [e2] X.env)).any (·.1) = false := by rfl) :
    PI X (.Tuple elts kk tpos) (.Call (.Name "zip" ps) [e, e2] [] pos) (iZ2 X.K ta) := by
  constructor
  intro pins s σ H R I h
  refine Call_ (ld_blt I hg hm PyProof.Rows.boot_zip (PyProof.Rows.callWith_type1 (thn (ha.run pos pins s σ H _ I h) ?_) hs hpl))
  rintro us s1 ⟨vs, H1, I1, r1, b1, b2, p, q, xs, ys, ex, sx, sy, k⟩
  subst ex
  match us, r1 with
  | [_, _], .cons rfl (.cons rfl .nil) =>
    obtain ⟨its, rv, a1, lp⟩ := seq_of I1 sx
    obtain ⟨jts, rw', a2, lq⟩ := seq_of I1 sy
    refine zip_begins2 (begins b1 p its.toArray) (begins b2 q jts.toArray) a1 a2 ?_
    intro h' hz hT hO o1 o2 hsz hk
    refine wpAny_pyIter_zip hz ?_
    have I2 : Inv X pins σ H1 { s1 with heap := h' } := I1.kept (t' := s1.toks) hk
    have sep := zip_sep2 (N := s1.heap.objs.size) (fp1 := [p]) (fp2 := [q]) (by simpa using lp) (by simpa using lq)
    refine ⟨s1.heap.objs.size + 4, [s1.heap.objs.size + 4, s1.heap.objs.size + 2, s1.heap.objs.size + 3, s1.heap.objs.size, s1.heap.objs.size + 1], _, _, H1, rfl, I2, turn2 (b1 := b1) (b2 := b2) sep (Nat.ne_of_lt lp) (Nat.ne_of_lt (Nat.lt_succ_of_lt lq)), ⟨hz, hT, ⟨_, _, hO⟩, itObj_at o1, itObj_at o2⟩, ?_, k⟩
    intro c hcm
    have hle : s1.heap.objs.size ≤ c := by
      simp only [List.mem_cons, List.not_mem_nil, or_false] at hcm
      rcases hcm with rfl | rfl | rfl | rfl | rfl <;> first | exact Nat.le_refl _ | exact Nat.le_add_right _ _
    exact I1.fpOk hle (I1.hok.fresh hle)
end Zi
set_option Elab.async false
set_option linter.all false
set_option maxRecDepth 100000
set_option autoImplicit false
/-! ZI2: zip of three, enumerate of either kind. -/
namespace Zi
open PySem PySem.Spec PyProof.Rows L2
def It3 (K : PySem.W.Frag) (b1 b2 b3 : Bool) (p q t : Addr) : It :=
  ⟨fun i H => ∃ (xs ys zs : List V) (x y z : V), Sq K b1 H p xs ∧ Sq K b2 H q ys ∧ Sq K b3 H t zs ∧ xs[i]? = some x ∧ ys[i]? = some y ∧ zs[i]? = some z,
   fun i H v H' => ∃ T x y z, v = .ref T ∧ H T = none ∧ H' = upd H T (.tup [x, y, z]) ∧ (∀ xs, Sq K b1 H p xs → xs[i]? = some x) ∧ (∀ ys, Sq K b2 H q ys → ys[i]? = some y) ∧ ∀ zs, Sq K b3 H t zs → zs[i]? = some z,
   fun i H => ∃ xs ys zs : List V, Sq K b1 H p xs ∧ Sq K b2 H q ys ∧ Sq K b3 H t zs ∧ i ≤ xs.length ∧ i ≤ ys.length ∧ i ≤ zs.length ∧ (i = xs.length ∨ i = ys.length ∨ i = zs.length)⟩
theorem turn3 {P : Program} {w : World} {K : PySem.W.Frag} {elts : List Expr} {kk : Nat} {tpos : Pos} {b1 b2 b3 : Bool} {p q t z TI TO i1 i2 i3 : Addr} (S : ZipSep3 z TI TO i1 i2 i3 [i1, p] [i2, q] [i3, t]) (hp : p ≠ i1) (hq : q ≠ i2) (ht : t ≠ i3) :
    Turn P w K (.Tuple elts kk tpos) (It3 K b1 b2 b3 p q t) [z, TI, TO, i1, i2, i3] z
      (fun i h => IsZip h z TI TO .none ∧ IsTupOf3 h TI (.ref i1) (.ref i2) (.ref i3) ∧ (∃ x y u, IsTupOf3 h TO x y u) ∧ IterAt b1 h i1 p i ∧ IterAt b2 h i2 q i ∧ IterAt b3 h i3 t i) where
  mem := by simp
  obj := by
    rintro i h ⟨hz, hT, ⟨x, y, u, hO⟩, h1, h2, h3⟩ c hc
    simp only [List.mem_cons, List.not_mem_nil, or_false] at hc
    rcases hc with rfl | rfl | rfl | rfl | rfl | rfl
    · exact ⟨_, hz, fun v q => nomatch q⟩
    · exact ⟨_, hT, fun v q => nomatch q⟩
    · exact ⟨_, hO, fun v q => nomatch q⟩
    · exact h1.obj
    · exact h2.obj
    · exact h3.obj
  keep := by
    rintro i h h' ⟨hz, hT, ⟨x, y, u, hO⟩, h1, h2, h3⟩ k
    exact ⟨k z (by simp) _ hz, k TI (by simp) _ hT, ⟨x, y, u, k TO (by simp) _ hO⟩, h1.keep fun o e => k i1 (by simp) o e, h2.keep fun o e => k i2 (by simp) o e, h3.keep fun o e => k i3 (by simp) o e⟩
  item := by
    intro X hP hw hK hc i pins s σ H E I hf st hg
    subst hP hw hK
    obtain ⟨hz, hT, ⟨x0, y0, z0, hO⟩, h1, h2, h3⟩ := st
    obtain ⟨xs, ys, zs, x, y, g, sx, sy, sz, ex, ey, ez⟩ := hg
    obtain ⟨its, rv, a1, _⟩ := seq_of I sx
    obtain ⟨jts, rw', a2, _⟩ := seq_of I sy
    obtain ⟨kts, rk, a3, _⟩ := seq_of I sz
    obtain ⟨u, hu, ru⟩ := rv.get ex
    obtain ⟨v, hv, rv2⟩ := rw'.get ey
    obtain ⟨k', hk', rk2⟩ := rk.get ez
    have hh := I.ok.hd hc
    have hzl : z < s.heap.objs.size := Heap.lt_size hz
    have all : ∀ c, c ∈ [z, TI, TO, i1, i2, i3] → c < s.heap.objs.size := fun c hcm => by
      simp only [List.mem_cons, List.not_mem_nil, or_false] at hcm
      rcases hcm with rfl | rfl | rfl | rfl | rfl | rfl
      · exact hzl
      · exact Heap.lt_size hT
      · exact Heap.lt_size hO
      · obtain ⟨o, e, _⟩ := h1.obj; exact Heap.lt_size e
      · obtain ⟨o, e, _⟩ := h2.obj; exact Heap.lt_size e
      · obtain ⟨o, e, _⟩ := h3.obj; exact Heap.lt_size e
    refine wpAny_pyNext_zipD3_item S (draws (by exact hh) b1 i1 p hp its.toArray) (draws (by exact hh) b2 i2 q hq jts.toArray) (draws (by exact hh) b3 i3 t ht kts.toArray) hz hT hO ⟨h1, a1⟩ ⟨h2, a2⟩ ⟨h3, a3⟩
      (by simpa using (List.getElem?_eq_some_iff.mp hu).1) (by simpa using (List.getElem?_eq_some_iff.mp hv).1) (by simpa using (List.getElem?_eq_some_iff.mp hk').1) ?_
    intro x1 x2 x3 h' tk e1 e2 e3 hz' hO' st1 st2 st3 hN hsz hk
    have e1 : x1 = u := by have := e1; simp [hu] at this; exact this.symm
    have e2 : x2 = v := by have := e2; simp [hv] at this; exact this.symm
    have e3 : x3 = k' := by have := e3; simp [hk'] at this; exact this.symm
    subst e1 e2 e3
    refine ⟨_, rfl, wpAny_letOwnedTupleGo_zip (s := { s with heap := h', toks := tk }) hz' fun h'' hz'' sb => ?_⟩
    have hN2 : h''.get? s.heap.objs.size = some { cls := .type "tuple", data := .seq #[x1, x2, x3] } := (sb.2 _ (Nat.ne_of_gt hzl)).trans hN
    have new : ObjOk X.prog X.w (upd H s.heap.objs.size (.tup [x, y, g])) h'' s.heap.objs.size (.tup [x, y, g]) :=
      ⟨by show 3 ≤ sizeLine; decide, [x1, x2, x3], .cons ru (.cons rv2 (.cons rk2 .nil)), ⟨_, hN2, rfl, _, rfl⟩⟩
    have I1 : Inv X pins σ (upd H s.heap.objs.size (.tup [x, y, g])) { s with heap := h'', toks := tk } := by
      refine I.turnedNew (ch := [z, TI, TO, i1, i2, i3]) (fun c o hb e => ?_) hf (Nat.le_refl _) new
      simp only [List.mem_cons, List.not_mem_nil, or_false, not_or] at hb
      exact (sb.2 c hb.1).trans (hk c o hb.1 hb.2.2.1 hb.2.2.2.1 hb.2.2.2.2.1 hb.2.2.2.2.2 e)
    refine ⟨.ref s.heap.objs.size, _, I1, rfl, ⟨_, x, y, g, rfl, I.hok.fresh (Nat.le_refl _), rfl, fun l hl => by rw [seq_inj I hl sx]; exact ex, fun l hl => by rw [seq_inj I hl sy]; exact ey, fun l hl => by rw [seq_inj I hl sz]; exact ez⟩, ⟨hz'', ?_, ⟨x1, x2, x3, ?_⟩, ?_, ?_, ?_⟩, fun c hcm => ?_⟩
    · exact (sb.2 _ S.TIz).trans (hk _ _ S.TIz S.TITO S.TIi1 S.TIi2 S.TIi3 hT)
    · exact (sb.2 _ S.TOz).trans hO'
    · exact st1.1.keep fun o e => (sb.2 _ S.zi1.symm).trans e
    · exact st2.1.keep fun o e => (sb.2 _ S.zi2.symm).trans e
    · exact st3.1.keep fun o e => (sb.2 _ S.zi3.symm).trans e
    · rw [upd_ne (Nat.ne_of_lt (all c hcm))]
      exact (hf c hcm).1
  done := by
    intro X hP hw hK hc i pins s σ H E I hf st hg
    subst hP hw hK
    obtain ⟨hz, hT, ⟨x0, y0, z0, hO⟩, h1, h2, h3⟩ := st
    obtain ⟨xs, ys, zs, sx, sy, sz, l1, l2, l3, hend⟩ := hg
    obtain ⟨its, rv, a1, _⟩ := seq_of I sx
    obtain ⟨jts, rw', a2, _⟩ := seq_of I sy
    obtain ⟨kts, rk, a3, _⟩ := seq_of I sz
    have hh := I.ok.hd hc
    have m1 := rv.length
    have m2 := rw'.length
    have m3 := rk.length
    refine wpAny_pyNext_zipD3_end S (draws (by exact hh) b1 i1 p hp its.toArray) (draws (by exact hh) b2 i2 q hq jts.toArray) (draws (by exact hh) b3 i3 t ht kts.toArray) hz hT hO ⟨h1, a1⟩ ⟨h2, a2⟩ ⟨h3, a3⟩
      (by simp; omega) (by simp; omega) (by simp; omega) (by simp; omega) fun h' tk hk => ⟨rfl, ?_⟩
    refine I.turnedL (ch := [z, TI, TO, i1, i2, i3]) (fun c o hb e => ?_) hf
    simp only [List.mem_cons, List.not_mem_nil, or_false, not_or] at hb
    exact hk c o hb.1 hb.2.2.1 hb.2.2.2.1 hb.2.2.2.2.1 hb.2.2.2.2.2 e
  self := fun A i s Q E st h => wpAny_pyIter_zip st.1 h
def iZ3 (K : PySem.W.Frag) (ta : TA) : TI := fun σ H R => ta σ H fun vs H1 => ∃ b1 b2 b3 p q t xs ys zs, vs = [.ref p, .ref q, .ref t] ∧ Sq K b1 H1 p xs ∧ Sq K b2 H1 q ys ∧ Sq K b3 H1 t zs ∧ R (It3 K b1 b2 b3 p q t) H1
theorem pi_z3 {X : Cx} {e e2 e3 : Expr} {ta : TA} {ps pos tpos : Pos} {elts : List Expr} {kk : Nat} (hm : X.mg "zip" = none) (ha : PA X [e, e2, e3] ta) (hg : Gl X "zip" := by rfl)
    (hs : starEach [e, e2, e3] X.env = (false, eval e X.env) :: starEach [e2, e3] X.env := by rfl) (hpl : (backTo pos (starEach [e2, e3] X.env)).any (·.1) = false := by rfl) :
    PI X (.Tuple elts kk tpos) (.Call (.Name "zip" ps) [e, e2, e3] [] pos) (iZ3 X.K ta) := by
  constructor
  intro pins s σ H R I h
  refine Call_ (ld_blt I hg hm PyProof.Rows.boot_zip (PyProof.Rows.callWith_type1 (thn (ha.run pos pins s σ H _ I h) ?_) hs hpl))
  rintro us s1 ⟨vs, H1, I1, r1, b1, b2, b3, p, q, t, xs, ys, zs, ex, sx, sy, sz, k⟩
  subst ex
  match us, r1 with
  | [_, _, _], .cons rfl (.cons rfl (.cons rfl .nil)) =>
    obtain ⟨its, rv, a1, lp⟩ := seq_of I1 sx
    obtain ⟨jts, rw', a2, lq⟩ := seq_of I1 sy
    obtain ⟨kts, rk, a3, lt⟩ := seq_of I1 sz
    refine zip_begins3 (begins b1 p its.toArray) (begins b2 q jts.toArray) (begins b3 t kts.toArray) a1 a2 a3 ?_
    intro h' hz hT hO o1 o2 o3 hsz hk
    refine wpAny_pyIter_zip hz ?_
    have I2 : Inv X pins σ H1 { s1 with heap := h' } := I1.kept (t' := s1.toks) hk
    have sep := zip_sep3 (N := s1.heap.objs.size) (fp1 := [p]) (fp2 := [q]) (fp3 := [t]) (by simpa using lp) (by simpa using lq) (by simpa using lt)
    refine ⟨s1.heap.objs.size + 5, [s1.heap.objs.size + 5, s1.heap.objs.size + 3, s1.heap.objs.size + 4, s1.heap.objs.size, s1.heap.objs.size + 1, s1.heap.objs.size + 2], _, _, H1, rfl, I2,
      turn3 (b1 := b1) (b2 := b2) (b3 := b3) sep (Nat.ne_of_lt lp) (Nat.ne_of_lt (Nat.lt_succ_of_lt lq)) (Nat.ne_of_lt (Nat.lt_succ_of_lt (Nat.lt_succ_of_lt lt))), ⟨hz, hT, ⟨_, _, _, hO⟩, itObj_at o1, itObj_at o2, itObj_at o3⟩, ?_, k⟩
    intro c hcm
    have hle : s1.heap.objs.size ≤ c := by
      simp only [List.mem_cons, List.not_mem_nil, or_false] at hcm
      rcases hcm with rfl | rfl | rfl | rfl | rfl | rfl <;> first | exact Nat.le_refl _ | exact Nat.le_add_right _ _
    exact I1.fpOk hle (I1.hok.fresh hle)
/-! ### enumerate -/
theorem itObj_free (b : Bool) (p : Addr) : (itObj b p).isFreed = false := by cases b <;> rfl
set_option maxHeartbeats 1000000 in
theorem meets_enum1 {v : Value} {o : Obj} {G : Heap → Prop} (B : Begins v o G) :
    Meets (Builtin.«enumerate.__new__» ⟨[.type "enumerate", v], []⟩) (fun _ R s => G s.heap ∧
      R (.ok (.ret (.ref (s.heap.push o).objs.size))) { s with heap := (s.heap.push o).push { cls := .type "enumerate", data := .fields #[.none, .bool false, .ref s.heap.objs.size, rawInt 0, .none, .none] } }) := by
  refine .of_wp fun prog w A R s h => ?_
  obtain ⟨hp, g, d, tk, os⟩ := s
  obtain ⟨h1, h⟩ := h
  have hsub := sub_enumerate
  have q1 : ∀ {A' : Around} {E : Value → Shared → Prop} {Q : Value → Shared → Prop},
      Q (.ref hp.objs.size) ⟨hp.push o, g, d, tk, os⟩ → wpAny (model prog w) A' (pyIter v) Q E ⟨hp, g, d, tk, os⟩ := by
    intro A' E Q q
    exact B.iter prog w _ _ ⟨hp, g, d, tk, os⟩ _ h1 q
  wp_walk using q1
  refine wpAny_stack_any ?_
  intro st
  refine wpAny_pure ?_
  split
  · rename_i c _ _ _ _ _
    cases (c == Value.type "enumerate") <;> (wp_walk using q1; exact ⟨_, rfl, h⟩)
  · (wp_walk using q1; exact ⟨_, rfl, h⟩)
theorem enum1 {prog : Program} {w : World} {A : Around} {E : Value → Shared → Prop} {s : Shared} {v : Value} {o : Obj} {G : Heap → Prop} {Q : Value → Shared → Prop} (B : Begins v o G) (h1 : G s.heap)
    (h : ∀ h', IsEnum h' (s.heap.objs.size + 1) s.heap.objs.size 0 .none → h'.get? s.heap.objs.size = some o →
      (∀ b o, s.heap.get? b = some o → h'.get? b = some o) → Q (.ref (s.heap.objs.size + 1)) { s with heap := h' }) :
    wpAny (model prog w) A (call (.type "enumerate") [v]) Q E s := by
  refine callType_new F.called_enumerate (by decide) (F.typeCall_enumerate_1 _) (F.newCall_enumerate_1 _)
    (fun obj => F.args_object_init_2 obj _) F.entry_enumerate_new (meets_enum1 B) ⟨h1, ?_⟩
  have n1 : (s.heap.push o).objs.size = s.heap.objs.size + 1 := Heap.size_push ..
  have at2 := Heap.get?_push_size (s.heap.push o) (o := { cls := .type "enumerate", data := .fields #[.none, .bool false, .ref s.heap.objs.size, rawInt 0, .none, .none] }) rfl
  rw [n1] at at2
  show _ ∧ _
  rw [n1]
  exact ⟨⟨_, at2, rfl⟩, h _ at2 (Heap.get?_push_of_some _ (Heap.get?_push_size _ B.free)) fun b o x => Heap.get?_push_of_some _ (Heap.get?_push_of_some _ x)⟩
def ItE (K : PySem.W.Frag) (b : Bool) (p : Addr) : It :=
  ⟨fun i H => ∃ (xs : List V) (x : V), Sq K b H p xs ∧ xs[i]? = some x,
   fun i H v H' => ∃ T x, v = .ref T ∧ H T = none ∧ H' = upd H T (.tup [.int (i : Nat), x]) ∧ ∀ xs, Sq K b H p xs → xs[i]? = some x,
   fun i H => ∃ xs : List V, Sq K b H p xs ∧ i = xs.length⟩
theorem turnE {P : Program} {w : World} {K : PySem.W.Frag} {elts : List Expr} {kk : Nat} {tpos : Pos} {b : Bool} {p e it : Addr} (hp : p ≠ it) (hei : e ≠ it) (hep : e ≠ p) :
    Turn P w K (.Tuple elts kk tpos) (ItE K b p) [e, it] e (fun i h => (∃ old, IsEnum h e it ((i : Nat) : Int) old) ∧ IterAt b h it p i) where
  mem := by simp
  obj := by
    rintro i h ⟨⟨old, he⟩, h1⟩ c hc
    simp only [List.mem_cons, List.not_mem_nil, or_false] at hc
    rcases hc with rfl | rfl
    · exact ⟨_, he, fun v q => nomatch q⟩
    · exact h1.obj
  keep := by
    rintro i h h' ⟨⟨old, he⟩, h1⟩ k
    exact ⟨⟨old, k e (by simp) _ he⟩, h1.keep fun o q => k it (by simp) o q⟩
  item := by
    intro X hP hw hK hc i pins s σ H E I hf st hg
    subst hP hw hK
    obtain ⟨⟨old, he⟩, h1⟩ := st
    obtain ⟨xs, x, sx, ex⟩ := hg
    obtain ⟨its, rv, a1, _⟩ := seq_of I sx
    obtain ⟨u, hu, ru⟩ := rv.get ex
    have hh := I.ok.hd hc
    have hel : e < s.heap.objs.size := Heap.lt_size he
    have hil : it < s.heap.objs.size := by obtain ⟨o, q, _⟩ := h1.obj; exact Heap.lt_size q
    refine wpAny_pyNext_enum_itemD (draws (by exact hh) b it p hp its.toArray) he ⟨h1, a1⟩ (by simpa using (List.getElem?_eq_some_iff.mp hu).1) hei (by simp [hei, hep]) ?_
    intro x1 h' tk e1 ho st1 hN hsz hk
    have e1 : x1 = u := by have := e1; simp [hu] at this; exact this.symm
    subst e1
    refine ⟨_, rfl, wpAny_letOwnedTupleGo_enum (s := { s with heap := h', toks := tk + 1 }) ho fun h'' he' sb => ?_⟩
    have hN2 : h''.get? s.heap.objs.size = some { cls := .type "tuple", data := .seq #[.int i tk, x1] } := (sb.2 _ (Nat.ne_of_gt hel)).trans hN
    have new : ObjOk X.prog X.w (upd H s.heap.objs.size (.tup [.int (i : Nat), x])) h'' s.heap.objs.size (.tup [.int (i : Nat), x]) :=
      ⟨by show 2 ≤ sizeLine; decide, [.int i tk, x1], .cons ⟨_, rfl⟩ (.cons ru .nil), ⟨_, hN2, rfl, _, rfl⟩⟩
    have I1 : Inv X pins σ (upd H s.heap.objs.size (.tup [.int (i : Nat), x])) { s with heap := h'', toks := tk + 1 } := by
      refine I.turnedNew (ch := [e, it]) (fun c o hb q => ?_) hf (Nat.le_refl _) new
      simp only [List.mem_cons, List.not_mem_nil, or_false, not_or] at hb
      exact (sb.2 c hb.1).trans (hk c o hb.1 hb.2 q)
    refine ⟨.ref s.heap.objs.size, _, I1, rfl, ⟨_, x, rfl, I.hok.fresh (Nat.le_refl _), rfl, fun l hl => by rw [seq_inj I hl sx]; exact ex⟩, ⟨⟨x1, ?_⟩, st1.1.keep fun o q => (sb.2 it hei.symm).trans q⟩, fun c hcm => ?_⟩
    · have e1 : ((i + 1 : Nat) : Int) = (i : Int) + 1 := by omega
      rw [e1]; exact he'
    · have hc' : c < s.heap.objs.size := by
        simp only [List.mem_cons, List.not_mem_nil, or_false] at hcm
        rcases hcm with rfl | rfl
        · exact hel
        · exact hil
      rw [upd_ne (Nat.ne_of_lt hc')]
      exact (hf c hcm).1
  done := by
    intro X hP hw hK hc i pins s σ H E I hf st hg
    subst hP hw hK
    obtain ⟨⟨old, he⟩, h1⟩ := st
    obtain ⟨xs, sx, hx⟩ := hg
    obtain ⟨its, rv, a1, _⟩ := seq_of I sx
    have hl := rv.length
    obtain ⟨f0, f1, f2, f3, f4, f5⟩ := hf it (by simp)
    have hn : i = its.toArray.size := by simp; omega
    subst hn
    exact wpAny_pyNext_enum_endD (draws (by exact I.ok.hd hc) b it p hp its.toArray) he ⟨h1, a1⟩ fun h' eb => ⟨rfl, I.turned (t' := s.toks) (fun b o hb q => eb b o hb q) f0 f1 f3 f4 f5⟩
  self := fun A i s Q E st h => let ⟨⟨_, he⟩, _⟩ := st; wpAny_pyIter_enum he h
def iE (K : PySem.W.Frag) (ta : TA) : TI := fun σ H R => ta σ H fun vs H1 => ∃ b p xs, vs = [.ref p] ∧ Sq K b H1 p xs ∧ R (ItE K b p) H1
theorem pi_e {X : Cx} {e : Expr} {ta : TA} {ps pos tpos : Pos} {elts : List Expr} {kk : Nat} (hm : X.mg "enumerate" = none) (ha : PA X [e] ta) (hg : Gl X "enumerate" := by rfl) (hs : starEach [e] X.env = [(false, eval e X.env)] := by rfl) :
    PI X (.Tuple elts kk tpos) (.Call (.Name "enumerate" ps) [e] [] pos) (iE X.K ta) := by
  constructor
  intro pins s σ H R I h
  refine Call_ (ld_blt I hg hm boot_enumerate (PyProof.Rows.callWith_type1 (thn (ha.run pos pins s σ H _ I h) ?_) hs rfl))
  rintro us s1 ⟨vs, H1, I1, r1, b, p, xs, ex, sx, k⟩
  subst ex
  match us, r1 with
  | [_], .cons rfl .nil =>
    obtain ⟨its, rv, a1, lp⟩ := seq_of I1 sx
    refine enum1 (begins b p its.toArray) a1 ?_
    intro h' he o1 hk
    refine wpAny_pyIter_enum he ?_
    have I2 : Inv X pins σ H1 { s1 with heap := h' } := I1.kept (t' := s1.toks) hk
    refine ⟨s1.heap.objs.size + 1, [s1.heap.objs.size + 1, s1.heap.objs.size], _, _, H1, rfl, I2, turnE (b := b) (Nat.ne_of_lt lp) (Nat.succ_ne_self _) (Nat.ne_of_gt (Nat.lt_succ_of_lt lp)), ⟨⟨.none, he⟩, itObj_at o1⟩, ?_, k⟩
    intro c hcm
    have hle : s1.heap.objs.size ≤ c := by
      simp only [List.mem_cons, List.not_mem_nil, or_false] at hcm
      rcases hcm with rfl | rfl <;> first | exact Nat.le_refl _ | exact Nat.le_add_right _ _
    exact I1.fpOk hle (I1.hok.fresh hle)
end Zi
set_option Elab.async false
set_option linter.all false
set_option maxRecDepth 100000
set_option autoImplicit false
/-! ZI3: zip of two rows, its pairs kept by a name. -/
namespace Zi
open PySem PySem.Spec PyProof.Rows L2
abbrev ZipF (h : Heap) (z tI tO : Addr) (u : Value) (b : Bool) : Prop :=
  h.get? z = some { cls := .type "zip", dict := none, data := .fields #[u, .bool b, .bool false, .ref tI, .ref tO], slots := #[] }
def Lent (u : Value) : Prop := u = .none ∨ ∃ T : Addr, u = rawInt T
section
variable {prog : Program} {w : World} {A : Around} {E : Value → Shared → Prop} {s : Shared} {z tI tO i1 i2 : Addr} {fp1 fp2 : List Addr} {n1 n2 i : Nat} {P1 P2 : Nat → Value → Prop} {St1 St2 : Nat → Heap → Prop} {a1 a2 u : Value} {b : Bool}
theorem alive_any {a : Addr} {Q : Option Obj → Shared → Prop} (h : Q (s.heap.get? a) s) : wpAny (model prog w) A (loadIfAlive a) Q E s := fun _ _ _ => h
theorem is_free {Q : Bool → Shared → Prop} (hz : ZipF s.heap z tI tO u b) (hu : Lent u) (h1 : Q true s) (h2 : ∀ h', ZipF h' z tI tO u true → Heap.SameBut z s.heap h' → Q false { s with heap := h' }) :
    wpAny (model prog w) A (Builtin.SmallTypes.ownedTupleIsFree (.ref z)) Q E s := by
  unfold Builtin.SmallTypes.ownedTupleIsFree
  rcases hu with rfl | ⟨T, rfl⟩
  · exact wpAny_bind (wpAny_field hz rfl (x := .none) rfl (wpAny_pure h1))
  · refine wpAny_bind (wpAny_field hz rfl (x := rawInt T) rfl ?_)
    show wpAny (model prog w) A (loadIfAlive ((T : Int).toNat) >>= _) Q E s
    rw [Int.toNat_natCast]
    refine wpAny_bind (alive_any ?_)
    cases hT : s.heap.get? T with
    | none => exact wpAny_pure h1
    | some o =>
      simp only [Option.isNone_some, Bool.false_eq_true, if_false]
      refine wpAny_bind (wpAny_field hz rfl (x := .bool b) rfl ?_)
      cases b with
      | true =>
        have c : ¬ ((Value.bool true != Value.bool true) = true) := by decide
        rw [if_neg c]; exact wpAny_pure (h2 _ hz (Heap.SameBut.refl _ _))
      | false =>
        have c : (Value.bool false != Value.bool true) = true := by decide
        rw [if_pos c]; exact wpAny_bind (wpAny_setField_rec hz (by simp) fun h' q1 q2 => wpAny_pure (h2 h' q1 q2))
abbrev Hop (z tO i1 i2 : Addr) (h h' : Heap) : Prop := ∀ c o, c ≠ z → c ≠ tO → c ≠ i1 → c ≠ i2 → h.get? c = some o → h'.get? c = some o
theorem nx_item {Q : Value → Shared → Prop} (S : ZipSep2 z tI tO i1 i2 fp1 fp2) (D1 : Draws prog w A i1 fp1 n1 P1 St1) (D2 : Draws prog w A i2 fp2 n2 P2 St2)
    (hz : ZipF s.heap z tI tO u b) (hu : Lent u) (hI : IsTupOf2 s.heap tI (.ref i1) (.ref i2)) (hO : IsTupOf2 s.heap tO a1 a2) (t1 : St1 i s.heap) (t2 : St2 i s.heap) (l1 : i < n1) (l2 : i < n2)
    (hQ : ∀ x y h' tk u' b' c1 c2, P1 i x → P2 i y → ZipF h' z tI tO u' b' → Lent u' → IsTupOf2 h' tO c1 c2 → St1 (i + 1) h' → St2 (i + 1) h' → IsTupOf2 h' s.heap.objs.size x y → Hop z tO i1 i2 s.heap h' → Q (.ref s.heap.objs.size) { s with heap := h', toks := tk }) :
    wpAny (model prog w) A (Builtin.«zip.__next__» ⟨[.ref z], []⟩) (fun fin s' => ∃ v, fin = .done (.ret v) ∧ Q v s') E s := by
  obtain ⟨h0, gs, dr, tk, os⟩ := s
  have zI1 := S.zi1; have zI2 := S.zi2
  show wpAny (model prog w) A (field (.ref z) 2 >>= _) _ E _
  refine wpAny_bind (wpAny_field hz rfl (x := .bool false) rfl (show wpAny (model prog w) A (field (.ref z) 3 >>= _) _ E _ from ?_))
  refine wpAny_bind (wpAny_field hz rfl (x := .ref tI) rfl (wpAny_bind (wpAny_seqItems hI rfl (show wpAny (model prog w) A (Builtin.SmallTypes.ownedTupleIsFree (.ref z) >>= _) _ E _ from ?_))))
  refine wpAny_bind (is_free hz hu ?free fun h1 hz1 e1 => ?held)
  case free =>
    simp only [if_true]
    refine wpAny_bind (wpAny_rule (wpAny_bind (wpAny_field hz rfl (x := .ref tO) rfl (wpAny_bind (wpAny_setField_rec hz (by simp) fun h1 hz1 e1 => ?_)))))
    replace hz1 : ZipF h1 z tI tO .ellipsis b := hz1
    replace e1 : Heap.SameBut z h0 h1 := e1
    refine wpAny_bind ?_
    simp only [List.zipIdx_cons, List.zipIdx_nil, List.forIn_cons, List.forIn_nil]
    refine wpAny_bind (wpAny_bind (wpAny_onRaise (show wpAny (model prog w) A (Builtin.SmallTypes.nextOf (.ref i1) >>= _) _ _ ⟨h1, gs, dr, tk, os⟩ from ?_)))
    refine wpAny_bind (D1.item i _ _ _ l1 (D1.over t1 e1 S.zf1) fun x h2 tk2 hx u1 e2 => wpAny_pure ?_)
    replace e2 : Heap.SameBut i1 h1 h2 := e2
    have k2 : IsTupOf2 h2 tO a1 a2 := e2.extBut _ _ S.Ti1 (e1.extBut _ _ S.TOz hO)
    refine wpAny_bind (wpAny_seqItems (s := ⟨h2, gs, dr, tk2, os⟩) k2 rfl (wpAny_bind (updateSeq_IsTupOf2 (s := ⟨h2, gs, dr, tk2, os⟩) k2 fun h3 k3 e3 => wpAny_bind (wpAny_letGo (wpAny_pure ?_)))))
    replace k3 : IsTupOf2 h3 tO x a2 := k3
    replace e3 : Heap.SameBut tO h2 h3 := e3
    refine wpAny_bind (wpAny_bind (wpAny_onRaise (show wpAny (model prog w) A (Builtin.SmallTypes.nextOf (.ref i2) >>= _) _ _ ⟨h3, gs, dr, tk2, os⟩ from ?_)))
    refine wpAny_bind (D2.item i _ _ _ l2 (D2.over (D2.over (D2.over t2 e1 S.zf2) e2 S.sep1_2) e3 S.Tf2) fun y h4 tk4 hy u2 e4 => wpAny_pure ?_)
    replace e4 : Heap.SameBut i2 h3 h4 := e4
    have k4 : IsTupOf2 h4 tO x a2 := e4.extBut _ _ S.Ti2 k3
    refine wpAny_bind (wpAny_seqItems (s := ⟨h4, gs, dr, tk4, os⟩) k4 rfl (wpAny_bind (updateSeq_IsTupOf2 (s := ⟨h4, gs, dr, tk4, os⟩) k4 fun h5 k5 e5 => wpAny_bind (wpAny_letGo (wpAny_pure (wpAny_pure ?_))))))
    replace k5 : IsTupOf2 h5 tO x y := k5
    replace e5 : Heap.SameBut tO h4 h5 := e5
    refine wpAny_bind (wpAny_seqItems (s := ⟨h5, gs, dr, tk4, os⟩) k5 rfl (wpAny_bind (wpAny_newTuple ?_)))
    have sz : h5.objs.size = h0.objs.size := by rw [e5.1, e4.1, e3.1, e2.1, e1.1]
    have hz5 : ZipF h5 z tI tO .ellipsis b := e5.extBut _ _ S.TOz.symm (e4.extBut _ _ zI2 (e3.extBut _ _ S.TOz.symm (e2.extBut _ _ zI1 hz1)))
    have hop : Hop z tO i1 i2 h0 h5 := fun c o n0 n1 n2 n3 e => e5.extBut _ _ n1 (e4.extBut _ _ n3 (e3.extBut _ _ n1 (e2.extBut _ _ n2 (e1.extBut _ _ n0 e))))
    have j1 : St1 (i + 1) h5 := D1.over (D1.over (D1.over u1 e3 S.Tf1) e4 S.sep2_1) e5 S.Tf1
    have j2 : St2 (i + 1) h5 := D2.over u2 e5 S.Tf2
    have zlt : z < h5.objs.size := Heap.lt_size hz5
    show wpAny (model prog w) A (Builtin.SmallTypes.ownedTupleHandOut (.ref z) (.ref h5.objs.size) >>= _) _ _ ⟨h5.push { cls := .type "tuple", data := .seq #[x, y] }, gs, dr, tk4, os⟩
    refine wpAny_bind ?_
    unfold Builtin.SmallTypes.ownedTupleHandOut
    have hz6 : ZipF (h5.push { cls := .type "tuple", data := .seq #[x, y] }) z tI tO .ellipsis b := Heap.get?_push_of_some _ hz5
    refine wpAny_bind (wpAny_setField_rec hz6 (by simp) fun h7 hz7 e7 => ?_)
    replace hz7 : ZipF h7 z tI tO (rawInt h5.objs.size) b := hz7
    refine wpAny_setField_rec hz7 (by simp) fun h8 hz8 e8 => ?_
    replace hz8 : ZipF h8 z tI tO (rawInt h5.objs.size) false := hz8
    replace e7 : Heap.SameBut z (h5.push { cls := .type "tuple", data := .seq #[x, y] }) h7 := e7
    replace e8 : Heap.SameBut z h7 h8 := e8
    have up : ∀ c o, c ≠ z → h5.get? c = some o → h8.get? c = some o := fun c o n0 e => e8.extBut _ _ n0 (e7.extBut _ _ n0 (Heap.get?_push_of_some _ e))
    have k8 : IsTupOf2 h8 h5.objs.size x y := e8.extBut _ _ (Nat.ne_of_gt zlt) (e7.extBut _ _ (Nat.ne_of_gt zlt) (Heap.get?_push_size _ rfl))
    refine wpAny_pure ⟨_, rfl, ?_⟩
    show Q (.ref h5.objs.size) ⟨h8, gs, dr, tk4, os⟩
    rw [sz] at k8 ⊢
    exact hQ x y h8 tk4 _ _ _ _ hx hy hz8 (.inr ⟨_, rfl⟩) (up _ _ S.TOz k5) (D1.frame _ _ _ j1 fun c hc o e => up c o (fun q => S.zf1 (q ▸ hc)) e) (D2.frame _ _ _ j2 fun c hc o e => up c o (fun q => S.zf2 (q ▸ hc)) e) k8 fun c o n0 n1 n2 n3 e => up c o n0 (hop c o n0 n1 n2 n3 e)
  case held =>
    replace e1 : Heap.SameBut z h0 h1 := e1
    simp only [Bool.false_eq_true, if_false]
    refine wpAny_bind ?_
    rw [← Array.forIn_toList]
    simp only [List.forIn_cons, List.forIn_nil]
    refine wpAny_bind (wpAny_bind (wpAny_holding (show wpAny (model prog w) A (Builtin.SmallTypes.nextOf (.ref i1) >>= _) _ _ ⟨h1, gs, dr, tk, os⟩ from ?_)))
    refine wpAny_bind (D1.item i _ _ _ l1 (D1.over t1 e1 S.zf1) fun x h2 tk2 hx u1 e2 => wpAny_pure (wpAny_pure ?_))
    replace e2 : Heap.SameBut i1 h1 h2 := e2
    refine wpAny_bind (wpAny_bind (wpAny_holding (show wpAny (model prog w) A (Builtin.SmallTypes.nextOf (.ref i2) >>= _) _ _ ⟨h2, gs, dr, tk2, os⟩ from ?_)))
    refine wpAny_bind (D2.item i _ _ _ l2 (D2.over (D2.over t2 e1 S.zf2) e2 S.sep1_2) fun y h3 tk3 hy u2 e3 => wpAny_pure (wpAny_pure (wpAny_pure ?_)))
    replace e3 : Heap.SameBut i2 h2 h3 := e3
    show wpAny (model prog w) A (newTuple [x, y] >>= _) _ _ _
    refine wpAny_bind (wpAny_newTuple ?_)
    have sz : h3.objs.size = h0.objs.size := by rw [e3.1, e2.1, e1.1]
    have hz3 : ZipF h3 z tI tO u true := e3.extBut _ _ zI2 (e2.extBut _ _ zI1 hz1)
    have kO : IsTupOf2 h3 tO a1 a2 := e3.extBut _ _ S.Ti2 (e2.extBut _ _ S.Ti1 (e1.extBut _ _ S.TOz hO))
    have j1 : St1 (i + 1) h3 := D1.over u1 e3 S.sep2_1
    refine wpAny_pure ⟨_, rfl, ?_⟩
    show Q (.ref h3.objs.size) _
    have kp : IsTupOf2 (h3.push { cls := .type "tuple", data := .seq #[x, y] }) h3.objs.size x y := Heap.get?_push_size _ rfl
    rw [sz] at kp ⊢
    exact hQ x y _ tk3 u true a1 a2 hx hy (Heap.get?_push_of_some _ hz3) hu (Heap.get?_push_of_some _ kO) (D1.frame _ _ _ j1 fun c hc o e => Heap.get?_push_of_some _ e) (D2.frame _ _ _ u2 fun c hc o e => Heap.get?_push_of_some _ e) kp fun c o n0 n1 n2 n3 e => Heap.get?_push_of_some _ (e3.extBut _ _ n3 (e2.extBut _ _ n2 (e1.extBut _ _ n0 e)))
theorem nx_end {Q : Fin → Shared → Prop} (S : ZipSep2 z tI tO i1 i2 fp1 fp2) (D1 : Draws prog w A i1 fp1 n1 P1 St1) (D2 : Draws prog w A i2 fp2 n2 P2 St2)
    (hz : ZipF s.heap z tI tO u b) (hu : Lent u) (hI : IsTupOf2 s.heap tI (.ref i1) (.ref i2)) (hO : IsTupOf2 s.heap tO a1 a2) (t1 : St1 i s.heap) (t2 : St2 i s.heap) (l1 : i ≤ n1) (l2 : i ≤ n2) (hend : i = n1 ∨ i = n2)
    (hE : ∀ h' tk e, Hop z tO i1 i2 s.heap h' → (∃ o, h'.get? e = some o ∧ o.cls = .type "StopIteration") → E (.ref e) { s with heap := h', toks := tk }) :
    wpAny (model prog w) A (Builtin.«zip.__next__» ⟨[.ref z], []⟩) Q E s := by
  obtain ⟨h0, gs, dr, tk, os⟩ := s
  have zI1 := S.zi1; have zI2 := S.zi2
  show wpAny (model prog w) A (field (.ref z) 2 >>= _) _ E _
  refine wpAny_bind (wpAny_field hz rfl (x := .bool false) rfl (show wpAny (model prog w) A (field (.ref z) 3 >>= _) _ E _ from ?_))
  refine wpAny_bind (wpAny_field hz rfl (x := .ref tI) rfl (wpAny_bind (wpAny_seqItems hI rfl (show wpAny (model prog w) A (Builtin.SmallTypes.ownedTupleIsFree (.ref z) >>= _) _ E _ from ?_))))
  refine wpAny_bind (is_free hz hu ?free fun h1 hz1 e1 => ?held)
  case free =>
    simp only [if_true]
    refine wpAny_bind (wpAny_rule (wpAny_bind (wpAny_field hz rfl (x := .ref tO) rfl (wpAny_bind (wpAny_setField_rec hz (by simp) fun h1 hz1 e1 => ?_)))))
    replace hz1 : ZipF h1 z tI tO .ellipsis b := hz1
    replace e1 : Heap.SameBut z h0 h1 := e1
    refine wpAny_bind ?_
    simp only [List.zipIdx_cons, List.zipIdx_nil, List.forIn_cons, List.forIn_nil]
    refine wpAny_bind (wpAny_bind (wpAny_onRaise (show wpAny (model prog w) A (Builtin.SmallTypes.nextOf (.ref i1) >>= _) _ _ ⟨h1, gs, dr, tk, os⟩ from ?_)))
    by_cases c1 : i < n1
    · refine wpAny_bind (D1.item i _ _ _ c1 (D1.over t1 e1 S.zf1) fun x h2 tk2 hx u1 e2 => wpAny_pure ?_)
      replace e2 : Heap.SameBut i1 h1 h2 := e2
      have k2 : IsTupOf2 h2 tO a1 a2 := e2.extBut _ _ S.Ti1 (e1.extBut _ _ S.TOz hO)
      refine wpAny_bind (wpAny_seqItems (s := ⟨h2, gs, dr, tk2, os⟩) k2 rfl (wpAny_bind (updateSeq_IsTupOf2 (s := ⟨h2, gs, dr, tk2, os⟩) k2 fun h3 k3 e3 => wpAny_bind (wpAny_letGo (wpAny_pure ?_)))))
      replace k3 : IsTupOf2 h3 tO x a2 := k3
      replace e3 : Heap.SameBut tO h2 h3 := e3
      have c2 : n2 = i := by omega
      refine wpAny_bind (wpAny_bind (wpAny_onRaise (show wpAny (model prog w) A (Builtin.SmallTypes.nextOf (.ref i2) >>= _) _ _ ⟨h3, gs, dr, tk2, os⟩ from ?_)))
      refine wpAny_bind (D2.done ⟨h3, gs, dr, tk2, os⟩ _ _ (by rw [c2]; exact D2.over (D2.over (D2.over t2 e1 S.zf2) e2 S.sep1_2) e3 S.Tf2) fun h4 er e4 he => ?_)
      replace e4 : Heap.ExtBut i2 h3 h4 := e4
      obtain ⟨oe, ho, hc⟩ := he
      replace ho : h4.get? er = some oe := ho
      have hz4 : ZipF h4 z tI tO .ellipsis b := e4 _ _ zI2 (e3.extBut _ _ S.TOz.symm (e2.extBut _ _ zI1 hz1))
      have ne : er ≠ z := fun q => by subst q; rw [hz4] at ho; cases ho; simp at hc
      refine wpAny_setField_rec (s := ⟨h4, gs, dr, tk2, os⟩) hz4 (by simp) fun h5 _ e5 => ?_
      replace e5 : Heap.SameBut z h4 h5 := e5
      exact hE h5 tk2 er (fun c o n0 n1 n2 n3 q => e5.extBut _ _ n0 (e4 _ _ n3 (e3.extBut _ _ n1 (e2.extBut _ _ n2 (e1.extBut _ _ n0 q))))) ⟨oe, e5.extBut _ _ ne ho, hc⟩
    · have c2 : n1 = i := by omega
      refine wpAny_bind (D1.done ⟨h1, gs, dr, tk, os⟩ _ _ (by rw [c2]; exact D1.over t1 e1 S.zf1) fun h4 er e4 he => ?_)
      replace e4 : Heap.ExtBut i1 h1 h4 := e4
      obtain ⟨oe, ho, hc⟩ := he
      replace ho : h4.get? er = some oe := ho
      have hz4 : ZipF h4 z tI tO .ellipsis b := e4 _ _ zI1 hz1
      have ne : er ≠ z := fun q => by subst q; rw [hz4] at ho; cases ho; simp at hc
      refine wpAny_setField_rec (s := ⟨h4, gs, dr, tk, os⟩) hz4 (by simp) fun h5 _ e5 => ?_
      replace e5 : Heap.SameBut z h4 h5 := e5
      exact hE h5 tk er (fun c o n0 n1 n2 n3 q => e5.extBut _ _ n0 (e4 _ _ n2 (e1.extBut _ _ n0 q))) ⟨oe, e5.extBut _ _ ne ho, hc⟩
  case held =>
    replace e1 : Heap.SameBut z h0 h1 := e1
    simp only [Bool.false_eq_true, if_false]
    refine wpAny_bind ?_
    rw [← Array.forIn_toList]
    simp only [List.forIn_cons, List.forIn_nil]
    refine wpAny_bind (wpAny_bind (wpAny_holding (show wpAny (model prog w) A (Builtin.SmallTypes.nextOf (.ref i1) >>= _) _ _ ⟨h1, gs, dr, tk, os⟩ from ?_)))
    by_cases c1 : i < n1
    · refine wpAny_bind (D1.item i _ _ _ c1 (D1.over t1 e1 S.zf1) fun x h2 tk2 hx u1 e2 => wpAny_pure (wpAny_pure ?_))
      replace e2 : Heap.SameBut i1 h1 h2 := e2
      have c2 : n2 = i := by omega
      refine wpAny_bind (wpAny_bind (wpAny_holding (show wpAny (model prog w) A (Builtin.SmallTypes.nextOf (.ref i2) >>= _) _ _ ⟨h2, gs, dr, tk2, os⟩ from ?_)))
      refine wpAny_bind (D2.done ⟨h2, gs, dr, tk2, os⟩ _ _ (by rw [c2]; exact D2.over (D2.over t2 e1 S.zf2) e2 S.sep1_2) fun h4 er e4 he => ?_)
      replace e4 : Heap.ExtBut i2 h2 h4 := e4
      exact hE h4 tk2 er (fun c o n0 n1 n2 n3 q => e4 _ _ n3 (e2.extBut _ _ n2 (e1.extBut _ _ n0 q))) he
    · have c2 : n1 = i := by omega
      refine wpAny_bind (D1.done ⟨h1, gs, dr, tk, os⟩ _ _ (by rw [c2]; exact D1.over t1 e1 S.zf1) fun h4 er e4 he => ?_)
      replace e4 : Heap.ExtBut i1 h1 h4 := e4
      exact hE h4 tk er (fun c o n0 n1 n2 n3 q => e4 _ _ n2 (e1.extBut _ _ n0 q)) he
end
end Zi
namespace Zi
open PySem PySem.Spec PyProof.Rows L2
section
variable {prog : Program} {w : World} {A : Around} {E : Value → Shared → Prop} {s : Shared} {z tI tO i1 i2 : Addr} {fp1 fp2 : List Addr} {n1 n2 i : Nat} {P1 P2 : Nat → Value → Prop} {St1 St2 : Nat → Heap → Prop} {a1 a2 u : Value} {b : Bool}
theorem py_item {Q : Option Value → Shared → Prop} (S : ZipSep2 z tI tO i1 i2 fp1 fp2) (D1 : Draws prog w A.in1 i1 fp1 n1 P1 St1) (D2 : Draws prog w A.in1 i2 fp2 n2 P2 St2)
    (hz : ZipF s.heap z tI tO u b) (hu : Lent u) (hI : IsTupOf2 s.heap tI (.ref i1) (.ref i2)) (hO : IsTupOf2 s.heap tO a1 a2) (t1 : St1 i s.heap) (t2 : St2 i s.heap) (l1 : i < n1) (l2 : i < n2)
    (hQ : ∀ x y h' tk u' b' c1 c2, P1 i x → P2 i y → ZipF h' z tI tO u' b' → Lent u' → IsTupOf2 h' tO c1 c2 → St1 (i + 1) h' → St2 (i + 1) h' → IsTupOf2 h' s.heap.objs.size x y → Hop z tO i1 i2 s.heap h' → Q (some (.ref s.heap.objs.size)) { s with heap := h', toks := tk }) :
    wpAny (model prog w) A (pyNext (.ref z)) Q E s := by
  have ty : s.TypeIs (.ref z) "zip" := ⟨_, hz, rfl⟩
  unfold pyNext
  exact wpAny_bind (wpAny_attempt (wpAny_callSpecial?_slot (name := Str.ofString "__next__") ty F.slot_zip_next (wpAny_call_entry F.slot_zip_next ty F.entry_zip_next
    (nx_item S D1 D2 hz hu hI hO t1 t2 l1 l2 fun x y h' tk u' b' c1 c2 q1 q2 q3 q4 q5 q6 q7 q8 q9 => wpAny_pure (hQ x y h' tk u' b' c1 c2 q1 q2 q3 q4 q5 q6 q7 q8 q9)) (F.args_zip_next_1 _))))
theorem py_end {Q : Option Value → Shared → Prop} (S : ZipSep2 z tI tO i1 i2 fp1 fp2) (D1 : Draws prog w A.in1 i1 fp1 n1 P1 St1) (D2 : Draws prog w A.in1 i2 fp2 n2 P2 St2)
    (hz : ZipF s.heap z tI tO u b) (hu : Lent u) (hI : IsTupOf2 s.heap tI (.ref i1) (.ref i2)) (hO : IsTupOf2 s.heap tO a1 a2) (t1 : St1 i s.heap) (t2 : St2 i s.heap) (l1 : i ≤ n1) (l2 : i ≤ n2) (hend : i = n1 ∨ i = n2)
    (hQ : ∀ h' tk, Hop z tO i1 i2 s.heap h' → Q none { s with heap := h', toks := tk }) : wpAny (model prog w) A (pyNext (.ref z)) Q E s := by
  have ty : s.TypeIs (.ref z) "zip" := ⟨_, hz, rfl⟩
  unfold pyNext
  refine wpAny_bind (wpAny_attempt (wpAny_callSpecial?_slot (name := Str.ofString "__next__") ty F.slot_zip_next (wpAny_call_entry F.slot_zip_next ty F.entry_zip_next (nx_end S D1 D2 hz hu hI hO t1 t2 l1 l2 hend fun h' tk e hk he => ?_) (F.args_zip_next_1 _))))
  obtain ⟨o, ho, hc⟩ := he
  exact wpAny_bind (wpAny_isInstance (T := "StopIteration") (b := true) ⟨o, ho, hc⟩ isSubtype_stop (wpAny_pure (hQ _ _ hk)))
theorem py_self {Q : Value → Shared → Prop} (hz : ZipF s.heap z tI tO u b) (hQ : Q (.ref z) s) : wpAny (model prog w) A (pyIter (.ref z)) Q E s := by
  have ty : s.TypeIs (.ref z) "zip" := ⟨_, hz, rfl⟩
  exact wpAny_pyIter_slot ty F.slot_zip_iter (wpAny_call_entry F.slot_zip_iter ty F.entry_zip_iter (show wpAny (model prog w) _ (ret (.ref z)) _ _ s from wpAny_pure ⟨_, rfl, "zip", _, ty, F.slot_zip_next.lookup, hQ⟩) (F.args_zip_iter_1 _))
end
theorem turn2N {P : Program} {w : World} {K : PySem.W.Frag} {nm : Str} {tpos : Pos} {b1 b2 : Bool} {p q z tI tO i1 i2 : Addr} (S : ZipSep2 z tI tO i1 i2 [i1, p] [i2, q]) (hp : p ≠ i1) (hq : q ≠ i2) :
    Turn P w K (.Name nm tpos) (It2 K b1 b2 p q) [z, tI, tO, i1, i2] z
      (fun i h => ∃ u b, ZipF h z tI tO u b ∧ Lent u ∧ IsTupOf2 h tI (.ref i1) (.ref i2) ∧ (∃ x y, IsTupOf2 h tO x y) ∧ IterAt b1 h i1 p i ∧ IterAt b2 h i2 q i) where
  mem := by simp
  obj := by
    rintro i h ⟨u, b, hz, hu, hI, ⟨x, y, hO⟩, h1, h2⟩ c hc
    simp only [List.mem_cons, List.not_mem_nil, or_false] at hc
    rcases hc with rfl | rfl | rfl | rfl | rfl
    · exact ⟨_, hz, fun v e => by cases e⟩
    · exact ⟨_, hI, fun v e => by cases e⟩
    · exact ⟨_, hO, fun v e => by cases e⟩
    · exact h1.obj
    · exact h2.obj
  keep := by
    rintro i h h' ⟨u, b, hz, hu, hI, ⟨x, y, hO⟩, h1, h2⟩ k
    exact ⟨u, b, k z (by simp) _ hz, hu, k tI (by simp) _ hI, ⟨x, y, k tO (by simp) _ hO⟩, h1.keep fun o e => k i1 (by simp) o e, h2.keep fun o e => k i2 (by simp) o e⟩
  item := by
    intro X hP hw hK hc i pins s σ H E I hf st hg
    subst hP hw hK
    obtain ⟨u, b, hz, hu, hI, ⟨x0, y0, hO⟩, h1, h2⟩ := st
    obtain ⟨xs, ys, x, y, sx, sy, ex, ey⟩ := hg
    obtain ⟨its, rx, a1, _⟩ := seq_of I sx
    obtain ⟨jts, ry, a2, _⟩ := seq_of I sy
    obtain ⟨v1, hv1, r1⟩ := rx.get ex
    obtain ⟨v2, hv2, r2⟩ := ry.get ey
    have hh := I.ok.hd hc
    have zl : z < s.heap.objs.size := Heap.lt_size hz
    have all : ∀ c, c ∈ [z, tI, tO, i1, i2] → c < s.heap.objs.size := fun c m => by
      simp only [List.mem_cons, List.not_mem_nil, or_false] at m
      rcases m with rfl | rfl | rfl | rfl | rfl
      · exact zl
      · exact Heap.lt_size hI
      · exact Heap.lt_size hO
      · obtain ⟨o, e, _⟩ := h1.obj; exact Heap.lt_size e
      · obtain ⟨o, e, _⟩ := h2.obj; exact Heap.lt_size e
    refine py_item S (draws (by exact hh) b1 i1 p hp its.toArray) (draws (by exact hh) b2 i2 q hq jts.toArray) hz hu hI hO ⟨h1, a1⟩ ⟨h2, a2⟩
      (by simpa using (List.getElem?_eq_some_iff.mp hv1).1) (by simpa using (List.getElem?_eq_some_iff.mp hv2).1) ?_
    intro x1 x2 h' tk u' b' c1 c2 e1 e2 hz' hu' hO' st1 st2 hN hk
    have e1 : x1 = v1 := by have := e1; simp [hv1] at this; exact this.symm
    have e2 : x2 = v2 := by have := e2; simp [hv2] at this; exact this.symm
    subst e1 e2
    refine ⟨_, rfl, ?_⟩
    unfold letOwnedTupleGo
    refine wpAny_pure ?_
    have new : ObjOk X.prog X.w (upd H s.heap.objs.size (.tup [x, y])) h' s.heap.objs.size (.tup [x, y]) := ⟨by show 2 ≤ sizeLine; decide, [x1, x2], .cons r1 (.cons r2 .nil), ⟨_, hN, rfl, _, rfl⟩⟩
    have I1 : Inv X pins σ (upd H s.heap.objs.size (.tup [x, y])) { s with heap := h', toks := tk } := by
      refine I.turnedNew (ch := [z, tI, tO, i1, i2]) (fun c o hb e => ?_) hf (Nat.le_refl _) new
      simp only [List.mem_cons, List.not_mem_nil, or_false, not_or] at hb
      exact hk c o hb.1 hb.2.2.1 hb.2.2.2.1 hb.2.2.2.2 e
    refine ⟨.ref s.heap.objs.size, _, I1, rfl, ⟨_, x, y, rfl, I.hok.fresh (Nat.le_refl _), rfl, fun l hl => by rw [seq_inj I hl sx]; exact ex, fun l hl => by rw [seq_inj I hl sy]; exact ey⟩, ⟨u', b', hz', hu', ?_, ⟨c1, c2, hO'⟩, st1.1, st2.1⟩, fun c m => ?_⟩
    · exact hk _ _ S.TIz S.TITO S.TIi1 S.TIi2 hI
    · rw [upd_ne (Nat.ne_of_lt (all c m))]
      exact (hf c m).1
  done := by
    intro X hP hw hK hc i pins s σ H E I hf st hg
    subst hP hw hK
    obtain ⟨u, b, hz, hu, hI, ⟨x0, y0, hO⟩, h1, h2⟩ := st
    obtain ⟨xs, ys, sx, sy, l1, l2, hend⟩ := hg
    obtain ⟨its, rx, a1, _⟩ := seq_of I sx
    obtain ⟨jts, ry, a2, _⟩ := seq_of I sy
    have hh := I.ok.hd hc
    have m1 := rx.length
    have m2 := ry.length
    refine py_end S (draws (by exact hh) b1 i1 p hp its.toArray) (draws (by exact hh) b2 i2 q hq jts.toArray) hz hu hI hO ⟨h1, a1⟩ ⟨h2, a2⟩ (by simp; omega) (by simp; omega) (by simp; omega) fun h' tk hk => ⟨rfl, ?_⟩
    refine I.turnedL (ch := [z, tI, tO, i1, i2]) (fun c o hb e => ?_) hf
    simp only [List.mem_cons, List.not_mem_nil, or_false, not_or] at hb
    exact hk c o hb.1 hb.2.2.1 hb.2.2.2.1 hb.2.2.2.2 e
  self := fun A i s Q E ⟨u, b, hz, _⟩ h => py_self hz h
theorem pi_z2N {X : Cx} {e e2 : Expr} {ta : TA} {ps pos tpos : Pos} {nm : Str} (hm : X.mg "zip" = none) (ha : PA X [e, e2] ta) (hg : Gl X "zip" := by rfl)
    (hs : starEach [e, e2] X.env = (false, eval e X.env) :: starEach [e2] X.env := by rfl) (hpl : (backTo pos (starEach [e2] X.env)).any (·.1) = false := by rfl) : PI X (.Name nm tpos) (.Call (.Name "zip" ps) [e, e2] [] pos) (iZ2 X.K ta) := by
  constructor
  intro pins s σ H R I h
  refine Call_ (ld_blt I hg hm PyProof.Rows.boot_zip (PyProof.Rows.callWith_type1 (thn (ha.run pos pins s σ H _ I h) ?_) hs hpl))
  rintro us s1 ⟨vs, H1, I1, r1, b1, b2, p, q, xs, ys, ex, sx, sy, k⟩
  subst ex
  match us, r1 with
  | [_, _], .cons rfl (.cons rfl .nil) =>
    obtain ⟨its, rx, a1, lp⟩ := seq_of I1 sx
    obtain ⟨jts, ry, a2, lq⟩ := seq_of I1 sy
    refine zip_begins2 (begins b1 p its.toArray) (begins b2 q jts.toArray) a1 a2 ?_
    intro h' hz hI hO o1 o2 hsz hk
    have hz : ZipF h' _ _ _ .none false := hz
    refine py_self (s := { s1 with heap := h' }) hz ?_
    have I2 : Inv X pins σ H1 { s1 with heap := h' } := I1.kept (t' := s1.toks) hk
    have sep := zip_sep2 (N := s1.heap.objs.size) (fp1 := [p]) (fp2 := [q]) (by simpa using lp) (by simpa using lq)
    refine ⟨s1.heap.objs.size + 4, [s1.heap.objs.size + 4, s1.heap.objs.size + 2, s1.heap.objs.size + 3, s1.heap.objs.size, s1.heap.objs.size + 1], _, _, H1, rfl, I2, turn2N (b1 := b1) (b2 := b2) sep (Nat.ne_of_lt lp) (Nat.ne_of_lt (Nat.lt_succ_of_lt lq)), ⟨.none, false, hz, .inl rfl, hI, ⟨_, _, hO⟩, itObj_at o1, itObj_at o2⟩, ?_, k⟩
    intro c hcm
    have hle : s1.heap.objs.size ≤ c := by
      simp only [List.mem_cons, List.not_mem_nil, or_false] at hcm
      rcases hcm with rfl | rfl | rfl | rfl | rfl <;> first | exact Nat.le_refl _ | exact Nat.le_add_right _ _
    exact I1.fpOk hle (I1.hok.fresh hle)
end Zi
set_option Elab.async false
set_option linter.all false
set_option maxRecDepth 100000
/-! Z0: values as trees, how they stand in the abstract heap, who owns what. -/
namespace Zm
open PySem PySem.Spec PyProof.Rows L2
abbrev Cnt := Addr → Nat
def cp (p : Addr) : Cnt := fun x => if x = p then 1 else 0
theorem cp_same {p : Addr} : cp p p = 1 := if_pos rfl
theorem cp_ne {p x : Addr} (h : x ≠ p) : cp p x = 0 := if_neg h
/-- values as trees. lst true: nobody else holds this list; lst false: it is never changed from here on; box n: the n-th list of the store -/
inductive D where
  | non | bl (b : Bool) | int (i : Int) | str (x : Str)
  | tup (xs : List D) | lst (o : Bool) (xs : List D) | dic (o : Bool) (ks vs : List D)
  | box (n : Nat) | fn (x : Str) | ty (x : String) | ro (ns : List Int)
  | exc (c : Str) (m : Option Int)
  deriving Inhabited
abbrev Sto := List (List D)
abbrev Env := List (Option D)
mutual
/-- all lists within are frozen -/
@[simp] def fz : D → D
  | .tup xs => .tup (fzs xs)
  | .lst _ xs => .lst false (fzs xs)
  | .dic _ ks vs => .dic false (fzs ks) (fzs vs)
  | .non => .non | .bl b => .bl b | .int i => .int i | .str x => .str x | .box n => .box n | .fn x => .fn x | .ty x => .ty x | .exc c m => .exc c m | .ro ns => .ro ns
@[simp] def fzs : List D → List D
  | [] => []
  | x :: xs => fz x :: fzs xs
end
mutual
/-- no frozen list within -/
@[simp] def noF : D → Bool
  | .tup xs => noFs xs
  | .lst o xs => o && noFs xs
  | .dic o ks vs => o && noFs ks && noFs vs
  | .non => true | .bl _ => true | .int _ => true | .str _ => true | .box _ => true | .fn _ => true | .ty _ => true | .exc _ _ => true | .ro _ => true
@[simp] def noFs : List D → Bool
  | [] => true
  | x :: xs => noF x && noFs xs
end
mutual
/-- no list at all within (but boxes) -/
@[simp] def plain : D → Bool
  | .tup xs => plains xs
  | .lst _ _ => false
  | .dic _ _ _ => false
  | .non => true | .bl _ => true | .int _ => true | .str _ => true | .box _ => true | .fn _ => true | .ty _ => true | .exc _ _ => true | .ro _ => true
@[simp] def plains : List D → Bool
  | [] => true
  | x :: xs => plain x && plains xs
end
mutual
def pd : D → Option PyData
  | .non => some .none
  | .bl b => some (.bool b)
  | .int i => some (.int i)
  | .str x => some (.str x)
  | .tup xs => (pds xs).map .tuple
  | .lst _ xs => (pds xs).map .list
  | .ro ns => some (.list (ns.map .int))
  | .dic _ _ _ => none | .box _ => none | .fn _ => none | .ty _ => none | .exc _ _ => none
def pds : List D → Option (List PyData)
  | [] => some []
  | x :: xs => match pd x, pds xs with
    | some y, some ys => some (y :: ys)
    | _, _ => none
end
theorem fzs_eq : ∀ xs : List D, fzs xs = xs.map fz
  | [] => rfl
  | x :: xs => by rw [fzs, fzs_eq xs]; rfl
theorem noFs_iff : ∀ {xs : List D}, noFs xs = true ↔ ∀ x ∈ xs, noF x = true
  | [] => by simp [noFs]
  | x :: xs => by simp [noFs, noFs_iff (xs := xs)]
theorem plains_iff : ∀ {xs : List D}, plains xs = true ↔ ∀ x ∈ xs, plain x = true
  | [] => by simp [plains]
  | x :: xs => by simp [plains, plains_iff (xs := xs)]
section
variable (K : PySem.W.Frag) (mg : Str → Option Value) (H : Hp) (ρ : List Addr)
/-- a list of the written part -/
def SqK (K : PySem.W.Frag) (a : Addr) (xs : List V) : Prop :=
  ∃ (o : Obj) (its : Array Value) (n : Nat), K.lookup a = some o ∧ o.cls = .type "list" ∧ o.dict = none ∧ o.data = .seq its n ∧ its.size ≤ sizeLine ∧ Vals xs its.toList
/-- a list that is read only: known to the object, or of the written part -/
def SqR (K : PySem.W.Frag) (H : Hp) (a : Addr) (xs : List V) : Prop := (∃ o, H a = some (.frz o (.lst xs))) ∨ SqK K a xs
mutual
/-- the tree d stands at v: A counts the lists that are owned in it, F those that are frozen -/
inductive Rep : D → V → Cnt → Cnt → Prop
  | non {A F : Cnt} : (∀ x, A x = 0) → (∀ x, F x = 0) → Rep .non .non A F
  | bl {b : Bool} {A F : Cnt} : (∀ x, A x = 0) → (∀ x, F x = 0) → Rep (.bl b) (.bl b) A F
  | int {i : Int} {A F : Cnt} : (∀ x, A x = 0) → (∀ x, F x = 0) → Rep (.int i) (.int i) A F
  | str {z : Str} {A F : Cnt} : (∀ x, A x = 0) → (∀ x, F x = 0) → Rep (.str z) (.str z) A F
  | tup {p : Addr} {ds : List D} {vs : List V} {A F : Cnt} : H p = some (.tup vs) → Reps ds vs A F → Rep (.tup ds) (.ref p) A F
  | own {p : Addr} {ds : List D} {vs : List V} {a A F : Cnt} : H p = some (.lst vs) → p ∉ ρ → Reps ds vs a F → (∀ x, A x = cp p x + a x) → Rep (.lst true ds) (.ref p) A F
  | frz {p : Addr} {ds : List D} {vs : List V} {f A F : Cnt} : H p = some (.lst vs) → p ∉ ρ → Reps ds vs A f → (∀ x, F x = cp p x + f x) → Rep (.lst false ds) (.ref p) A F
  | ro {p : Addr} {ns : List Int} {A F : Cnt} : SqR K H p (ns.map V.int) → (∀ x, A x = 0) → (∀ x, F x = 0) → Rep (.ro ns) (.ref p) A F
  | box {n : Nat} {p : Addr} {A F : Cnt} : ρ[n]? = some p → (∀ x, A x = 0) → (∀ x, F x = 0) → Rep (.box n) (.ref p) A F
  | fn {x : Str} {p : Addr} {A F : Cnt} : mg x = some (.ref p) → PySem.W.keepIn K (.ref p) = true → (∀ x, A x = 0) → (∀ x, F x = 0) → Rep (.fn x) (.ref p) A F
  | ty {x : String} {A F : Cnt} : (∀ x, A x = 0) → (∀ x, F x = 0) → Rep (.ty x) (.ty x) A F
inductive Reps : List D → List V → Cnt → Cnt → Prop
  | nil {A F : Cnt} : (∀ x, A x = 0) → (∀ x, F x = 0) → Reps [] [] A F
  | cons {d : D} {ds : List D} {v : V} {vs : List V} {a f a' f' A F : Cnt} : Rep d v a f → Reps ds vs a' f' → (∀ x, A x = a x + a' x) → (∀ x, F x = f x + f' x) → Reps (d :: ds) (v :: vs) A F
end
end
section
variable {K : PySem.W.Frag} {mg : Str → Option Value} {H H' : Hp} {ρ ρ' : List Addr} {d : D} {ds es : List D} {v : V} {vs ws : List V} {A F A' F' a f : Cnt}
theorem Rep.cong : Rep K mg H ρ d v A F → (∀ x, A' x = A x) → (∀ x, F' x = F x) → Rep K mg H ρ d v A' F' := by
  intro h hA hF
  have : A' = A := funext hA
  have : F' = F := funext hF
  subst_vars; exact h
theorem Reps.cong : Reps K mg H ρ ds vs A F → (∀ x, A' x = A x) → (∀ x, F' x = F x) → Reps K mg H ρ ds vs A' F' := by
  intro h hA hF
  have : A' = A := funext hA
  have : F' = F := funext hF
  subst_vars; exact h
theorem Reps.length : ∀ {ds : List D} {vs : List V} {A F : Cnt}, Reps K mg H ρ ds vs A F → ds.length = vs.length
  | _, _, _, _, .nil _ _ => rfl
  | _, _, _, _, .cons _ t _ _ => congrArg (· + 1) t.length
/-- what may change from H to H': M, and the boxes -/
structure Fr (M : Cnt) (H H' : Hp) (ρ ρ' : List Addr) : Prop where
  keep : ∀ x o, H x = some o → H' x = some o ∨ ((∃ l, o = HO.lst l) ∧ (x ∈ ρ ∨ 1 ≤ M x))
  there : ∀ x, H' x = none → H x = none
  ext : ∃ r, ρ' = ρ ++ r ∧ ∀ p ∈ r, H p = none
def c0 : Cnt := fun _ => 0
theorem Fr.refl {M : Cnt} : Fr M H H ρ ρ := ⟨fun _ _ h => .inl h, fun _ h => h, [], by simp, by simp⟩
theorem Fr.mono {M M' : Cnt} (h : Fr M H H' ρ ρ') (hm : ∀ x, 1 ≤ M x → 1 ≤ M' x ∨ H x = none) : Fr M' H H' ρ ρ' := by
  refine ⟨fun x o e => ?_, h.there, h.ext⟩
  rcases h.keep x o e with z | ⟨l, z | z⟩
  · exact .inl z
  · exact .inr ⟨l, .inl z⟩
  · rcases hm x z with y | y
    · exact .inr ⟨l, .inr y⟩
    · rw [y] at e; cases e
theorem Fr.trans {M M1 : Cnt} {H1 : Hp} {ρ1 : List Addr} (h : Fr M H H1 ρ ρ1) (h1 : Fr M1 H1 H' ρ1 ρ') (hm : ∀ x, 1 ≤ M1 x → 1 ≤ M x ∨ H x = none) : Fr M H H' ρ ρ' := by
  obtain ⟨r, e, n⟩ := h.ext
  obtain ⟨r1, e1, n1⟩ := h1.ext
  refine ⟨fun x o q => ?_, fun x q => h.there x (h1.there x q), r ++ r1, by rw [e1, e, List.append_assoc], fun p hp => ?_⟩
  · rcases h.keep x o q with z | z
    · rcases h1.keep x o z with y | ⟨l, y⟩
      · exact .inl y
      · rcases y with y | y
        · rw [e] at y
          rcases List.mem_append.mp y with y | y
          · exact .inr ⟨l, .inl y⟩
          · have := n x y
            rw [q] at this; cases this
        · rcases hm x y with y | y
          · exact .inr ⟨l, .inr y⟩
          · rw [q] at y; cases y
    · exact .inr z
  · rcases List.mem_append.mp hp with z | z
    · exact n p z
    · exact h.there p (n1 p z)
theorem Fr.mem (h : Fr A H H' ρ ρ') {x : Addr} (hx : x ∈ ρ) : x ∈ ρ' := by
  obtain ⟨r, e, _⟩ := h.ext
  rw [e]; exact List.mem_append_left _ hx
theorem Fr.get (h : Fr A H H' ρ ρ') {n : Nat} {p : Addr} (hx : ρ[n]? = some p) : ρ'[n]? = some p := by
  obtain ⟨r, e, _⟩ := h.ext
  obtain ⟨hl, _⟩ := List.getElem?_eq_some_iff.mp hx
  rw [e, List.getElem?_append_left hl]; exact hx
theorem Fr.nmem (h : Fr A H H' ρ ρ') {x : Addr} {o : HO} (e : H x = some o) (hx : x ∉ ρ) : x ∉ ρ' := by
  obtain ⟨r, q, n⟩ := h.ext
  rw [q]; intro z
  rcases List.mem_append.mp z with z | z
  · exact hx z
  · have := n x z
    rw [e] at this; cases this
theorem Fr.rdT {M : Cnt} (h : Fr M H H' ρ ρ') {p : Addr} (e : H p = some (.tup vs)) : H' p = some (.tup vs) := by
  rcases h.keep _ _ e with z | ⟨⟨l, z⟩, _⟩
  · exact z
  · cases z
theorem Fr.rdR {M : Cnt} (h : Fr M H H' ρ ρ') {p : Addr} (e : SqR K H p vs) : SqR K H' p vs := by
  rcases e with ⟨o, e⟩ | e
  · rcases h.keep _ _ e with z | ⟨⟨l, z⟩, _⟩
    · exact .inl ⟨o, z⟩
    · cases z
  · exact .inr e
theorem SqR.L {p : Addr} (h : SqR K H p vs) : SqL K H p vs := by
  rcases h with ⟨o, h⟩ | h
  · exact .inl (.inr ⟨o, h⟩)
  · exact .inr h
mutual
/-- a tree of which nothing is changed stands on -/
theorem Rep.frame {M : Cnt} (fr : Fr M H H' ρ ρ') : ∀ {d : D} {v : V} {A F : Cnt}, Rep K mg H ρ d v A F → (∀ x, 1 ≤ M x → A x = 0 ∧ F x = 0) → Rep K mg H' ρ' d v A F
  | _, _, _, _, .non a f, _ => .non a f
  | _, _, _, _, .bl a f, _ => .bl a f
  | _, _, _, _, .int a f, _ => .int a f
  | _, _, _, _, .str a f, _ => .str a f
  | _, _, _, _, .tup h t, hm => .tup (fr.rdT h) (Reps.frame fr t hm)
  | _, _, A, F, .own (p := p) h hp t e, hm => by
    have hM : M p = 0 := by
      cases z : M p with
      | zero => rfl
      | succ k => have := (hm p (by omega)).1; rw [e p, cp_same] at this; omega
    rcases fr.keep _ _ h with z | ⟨_, z | z⟩
    · exact .own z (fr.nmem h hp) (Reps.frame fr t fun x hx => by have := hm x hx; rw [e x] at this; omega) e
    · exact (hp z).elim
    · omega
  | _, _, A, F, .frz (p := p) h hp t e, hm => by
    have hM : M p = 0 := by
      cases z : M p with
      | zero => rfl
      | succ k => have := (hm p (by omega)).2; rw [e p, cp_same] at this; omega
    rcases fr.keep _ _ h with z | ⟨_, z | z⟩
    · exact .frz z (fr.nmem h hp) (Reps.frame fr t fun x hx => by have := hm x hx; rw [e x] at this; omega) e
    · exact (hp z).elim
    · omega
  | _, _, _, _, .ro h a f, _ => .ro (fr.rdR h) a f
  | _, _, _, _, .box h a f, _ => .box (fr.get h) a f
  | _, _, _, _, .fn h k a f, _ => .fn h k a f
  | _, _, _, _, .ty a f, _ => .ty a f
theorem Reps.frame {M : Cnt} (fr : Fr M H H' ρ ρ') : ∀ {ds : List D} {vs : List V} {A F : Cnt}, Reps K mg H ρ ds vs A F → (∀ x, 1 ≤ M x → A x = 0 ∧ F x = 0) → Reps K mg H' ρ' ds vs A F
  | _, _, _, _, .nil a f, _ => .nil a f
  | _, _, _, _, .cons h t e1 e2, hm => .cons (Rep.frame fr h fun x hx => by have := hm x hx; rw [e1, e2] at this; omega) (Reps.frame fr t fun x hx => by have := hm x hx; rw [e1, e2] at this; omega) e1 e2
end
mutual
/-- what is counted is there -/
theorem Rep.there : ∀ {d : D} {v : V} {A F : Cnt}, Rep K mg H ρ d v A F → ∀ x, 1 ≤ A x + F x → (∃ o, H x = some o) ∧ x ∉ ρ
  | _, _, _, _, .non a f, x, hx => by rw [a, f] at hx; omega
  | _, _, _, _, .bl a f, x, hx => by rw [a, f] at hx; omega
  | _, _, _, _, .int a f, x, hx => by rw [a, f] at hx; omega
  | _, _, _, _, .str a f, x, hx => by rw [a, f] at hx; omega
  | _, _, _, _, .tup _ t, x, hx => Reps.there t x hx
  | _, _, _, _, .own (p := p) h hp t e, x, hx => by
    by_cases q : x = p
    · subst q; exact ⟨⟨_, h⟩, hp⟩
    · rw [e, cp_ne q] at hx
      exact Reps.there t x (by omega)
  | _, _, _, _, .frz (p := p) h hp t e, x, hx => by
    by_cases q : x = p
    · subst q; exact ⟨⟨_, h⟩, hp⟩
    · rw [e, cp_ne q] at hx
      exact Reps.there t x (by omega)
  | _, _, _, _, .ro _ a f, x, hx => by rw [a, f] at hx; omega
  | _, _, _, _, .box _ a f, x, hx => by rw [a, f] at hx; omega
  | _, _, _, _, .fn _ _ a f, x, hx => by rw [a, f] at hx; omega
  | _, _, _, _, .ty a f, x, hx => by rw [a, f] at hx; omega
theorem Reps.there : ∀ {ds : List D} {vs : List V} {A F : Cnt}, Reps K mg H ρ ds vs A F → ∀ x, 1 ≤ A x + F x → (∃ o, H x = some o) ∧ x ∉ ρ
  | _, _, _, _, .nil a f, x, hx => by rw [a, f] at hx; omega
  | _, _, _, _, .cons (a := a) (f := f) (a' := a') (f' := f') h t e1 e2, x, hx => by
    rw [e1, e2] at hx
    by_cases z : 1 ≤ a x + f x
    · exact Rep.there h x z
    · exact Reps.there t x (by omega)
end
mutual
/-- what is owned is a list that may be written -/
theorem Rep.ownL : ∀ {d : D} {v : V} {A F : Cnt}, Rep K mg H ρ d v A F → ∀ x, 1 ≤ A x → ∃ l, H x = some (.lst l)
  | _, _, _, _, .non a f, x, hx => by rw [a] at hx; omega
  | _, _, _, _, .bl a f, x, hx => by rw [a] at hx; omega
  | _, _, _, _, .int a f, x, hx => by rw [a] at hx; omega
  | _, _, _, _, .str a f, x, hx => by rw [a] at hx; omega
  | _, _, _, _, .tup _ t, x, hx => Reps.ownL t x hx
  | _, _, _, _, .own (p := p) h hp t e, x, hx => by
    by_cases q : x = p
    · subst q; exact ⟨_, h⟩
    · rw [e, cp_ne q] at hx
      exact Reps.ownL t x (by omega)
  | _, _, _, _, .frz h hp t e, x, hx => Reps.ownL t x hx
  | _, _, _, _, .ro _ a f, x, hx => by rw [a] at hx; omega
  | _, _, _, _, .box _ a f, x, hx => by rw [a] at hx; omega
  | _, _, _, _, .fn _ _ a f, x, hx => by rw [a] at hx; omega
  | _, _, _, _, .ty a f, x, hx => by rw [a] at hx; omega
theorem Reps.ownL : ∀ {ds : List D} {vs : List V} {A F : Cnt}, Reps K mg H ρ ds vs A F → ∀ x, 1 ≤ A x → ∃ l, H x = some (.lst l)
  | _, _, _, _, .nil a f, x, hx => by rw [a] at hx; omega
  | _, _, _, _, .cons (a := a) h t e1 e2, x, hx => by
    rw [e1] at hx
    by_cases z : 1 ≤ a x
    · exact Rep.ownL h x z
    · exact Reps.ownL t x (by omega)
end
mutual
/-- frozen: what was owned is no longer -/
theorem Rep.fz : ∀ {d : D} {v : V} {A F : Cnt}, Rep K mg H ρ d v A F → ∃ F', Rep K mg H ρ (fz d) v c0 F' ∧ ∀ x, 1 ≤ F' x → 1 ≤ A x + F x
  | _, _, _, _, .non a f => ⟨c0, .non (fun _ => rfl) (fun _ => rfl), fun x h => by simp [c0] at h⟩
  | _, _, _, _, .bl a f => ⟨c0, .bl (fun _ => rfl) (fun _ => rfl), fun x h => by simp [c0] at h⟩
  | _, _, _, _, .int a f => ⟨c0, .int (fun _ => rfl) (fun _ => rfl), fun x h => by simp [c0] at h⟩
  | _, _, _, _, .str a f => ⟨c0, .str (fun _ => rfl) (fun _ => rfl), fun x h => by simp [c0] at h⟩
  | _, _, _, _, .tup h t => let ⟨F', r, q⟩ := Reps.fz t; ⟨F', .tup h r, q⟩
  | _, _, _, _, .own (p := p) h hp t e => by
    obtain ⟨F', r, q⟩ := Reps.fz t
    refine ⟨fun x => cp p x + F' x, .frz h hp r (fun _ => rfl), fun x hx => ?_⟩
    rw [e]
    have := q x
    by_cases z : 1 ≤ F' x
    · have := q x z; omega
    · have hx : 1 ≤ cp p x + F' x := hx
      omega
  | _, _, _, _, .frz (p := p) h hp t e => by
    obtain ⟨F', r, q⟩ := Reps.fz t
    refine ⟨fun x => cp p x + F' x, .frz h hp r (fun _ => rfl), fun x hx => ?_⟩
    rw [e]
    by_cases z : 1 ≤ F' x
    · have := q x z; omega
    · have hx : 1 ≤ cp p x + F' x := hx
      omega
  | _, _, _, _, .ro h a f => ⟨c0, .ro h (fun _ => rfl) (fun _ => rfl), fun x h => by simp [c0] at h⟩
  | _, _, _, _, .box h a f => ⟨c0, .box h (fun _ => rfl) (fun _ => rfl), fun x h => by simp [c0] at h⟩
  | _, _, _, _, .fn h k a f => ⟨c0, .fn h k (fun _ => rfl) (fun _ => rfl), fun x h => by simp [c0] at h⟩
  | _, _, _, _, .ty a f => ⟨c0, .ty (fun _ => rfl) (fun _ => rfl), fun x h => by simp [c0] at h⟩
theorem Reps.fz : ∀ {ds : List D} {vs : List V} {A F : Cnt}, Reps K mg H ρ ds vs A F → ∃ F', Reps K mg H ρ (fzs ds) vs c0 F' ∧ ∀ x, 1 ≤ F' x → 1 ≤ A x + F x
  | _, _, _, _, .nil a f => ⟨c0, .nil (fun _ => rfl) (fun _ => rfl), fun x h => by simp [c0] at h⟩
  | _, _, _, _, .cons h t e1 e2 => by
    obtain ⟨F1, r1, q1⟩ := Rep.fz h
    obtain ⟨F2, r2, q2⟩ := Reps.fz t
    refine ⟨fun x => F1 x + F2 x, .cons r1 r2 (fun _ => rfl) (fun _ => rfl), fun x hx => ?_⟩
    rw [e1, e2]
    by_cases z : 1 ≤ F1 x
    · have := q1 x z; omega
    · have hx : 1 ≤ F1 x + F2 x := hx
      have := q2 x (by omega); omega
end
mutual
theorem Rep.noF : ∀ {d : D} {v : V} {A F : Cnt}, Rep K mg H ρ d v A F → noF d = true → ∀ x, F x = 0
  | _, _, _, _, .non _ f, _, x => f x
  | _, _, _, _, .bl _ f, _, x => f x
  | _, _, _, _, .int _ f, _, x => f x
  | _, _, _, _, .str _ f, _, x => f x
  | _, _, _, _, .tup _ t, h, x => Reps.noF t (by simpa [Zm.noF] using h) x
  | _, _, _, _, .own _ _ t _, h, x => Reps.noF t (by simpa [Zm.noF] using h) x
  | _, _, _, _, .frz _ _ t _, h, x => by simp [Zm.noF] at h
  | _, _, _, _, .ro _ _ f, _, x => f x
  | _, _, _, _, .box _ _ f, _, x => f x
  | _, _, _, _, .fn _ _ _ f, _, x => f x
  | _, _, _, _, .ty _ f, _, x => f x
theorem Reps.noF : ∀ {ds : List D} {vs : List V} {A F : Cnt}, Reps K mg H ρ ds vs A F → noFs ds = true → ∀ x, F x = 0
  | _, _, _, _, .nil _ f, _, x => f x
  | _, _, _, _, .cons h t e1 e2, hn, x => by
    simp only [noFs, Bool.and_eq_true] at hn
    rw [e2, Rep.noF h hn.1, Reps.noF t hn.2]
end
mutual
theorem Rep.plain : ∀ {d : D} {v : V} {A F : Cnt}, Rep K mg H ρ d v A F → plain d = true → ∀ x, A x = 0 ∧ F x = 0
  | _, _, _, _, .non a f, _, x => ⟨a x, f x⟩
  | _, _, _, _, .bl a f, _, x => ⟨a x, f x⟩
  | _, _, _, _, .int a f, _, x => ⟨a x, f x⟩
  | _, _, _, _, .str a f, _, x => ⟨a x, f x⟩
  | _, _, _, _, .tup _ t, h, x => Reps.plain t (by simpa [Zm.plain] using h) x
  | _, _, _, _, .own _ _ t _, h, x => by simp [Zm.plain] at h
  | _, _, _, _, .frz _ _ t _, h, x => by simp [Zm.plain] at h
  | _, _, _, _, .ro _ a f, _, x => ⟨a x, f x⟩
  | _, _, _, _, .box _ a f, _, x => ⟨a x, f x⟩
  | _, _, _, _, .fn _ _ a f, _, x => ⟨a x, f x⟩
  | _, _, _, _, .ty a f, _, x => ⟨a x, f x⟩
theorem Reps.plain : ∀ {ds : List D} {vs : List V} {A F : Cnt}, Reps K mg H ρ ds vs A F → plains ds = true → ∀ x, A x = 0 ∧ F x = 0
  | _, _, _, _, .nil a f, _, x => ⟨a x, f x⟩
  | _, _, _, _, .cons h t e1 e2, hn, x => by
    simp only [plains, Bool.and_eq_true] at hn
    have z1 := Rep.plain h hn.1 x
    have z2 := Reps.plain t hn.2 x
    rw [e1, e2]; omega
end
/-- a place in a row -/
theorem Reps.at : ∀ {ds : List D} {vs : List V} {A F : Cnt} {i : Nat} {d : D}, Reps K mg H ρ ds vs A F → ds[i]? = some d → ∃ v a f, vs[i]? = some v ∧ Rep K mg H ρ d v a f ∧ ∀ x, a x ≤ A x ∧ f x ≤ F x
  | _, _, _, _, i, _, .nil _ _, e => by simp at e
  | _, _, _, _, 0, _, .cons h t e1 e2, e => by
    simp at e; subst e
    exact ⟨_, _, _, rfl, h, fun x => by rw [e1, e2]; omega⟩
  | _, _, _, _, i + 1, _, .cons h t e1 e2, e => by
    obtain ⟨v, a, f, q1, q2, q3⟩ := Reps.at t (i := i) (by simpa using e)
    exact ⟨v, a, f, by simpa using q1, q2, fun x => by have := q3 x; rw [e1, e2]; omega⟩
/-- .. put otherwise -/
theorem Reps.set : ∀ {ds : List D} {vs : List V} {A F : Cnt} {i : Nat} {d e : D} {v : V} {a f : Cnt}, Reps K mg H ρ ds vs A F → ds[i]? = some d → Rep K mg H ρ e v a f →
    ∃ w a0 f0, vs[i]? = some w ∧ Rep K mg H ρ d w a0 f0 ∧ ∃ A' F', Reps K mg H ρ (ds.set i e) (vs.set i v) A' F' ∧ ∀ x, A' x + a0 x = A x + a x ∧ F' x + f0 x = F x + f x
  | _, _, _, _, i, _, _, _, _, _, .nil _ _, e, _ => by simp at e
  | _, _, _, _, 0, _, _, _, _, _, .cons h t e1 e2, e, r => by
    simp at e; subst e
    refine ⟨_, _, _, rfl, h, _, _, .cons r t (fun _ => rfl) (fun _ => rfl), fun x => ?_⟩
    rw [e1, e2]; omega
  | _, _, _, _, i + 1, _, _, _, _, _, .cons h t e1 e2, e, r => by
    obtain ⟨w, a0, f0, q1, q2, A', F', q3, q4⟩ := Reps.set t (i := i) (by simpa using e) r
    refine ⟨w, a0, f0, by simpa using q1, q2, _, _, .cons h q3 (fun _ => rfl) (fun _ => rfl), fun x => ?_⟩
    have := q4 x
    rw [e1, e2]; omega
theorem Reps.append : ∀ {ds es : List D} {vs ws : List V} {A F A' F' : Cnt}, Reps K mg H ρ ds vs A F → Reps K mg H ρ es ws A' F' → Reps K mg H ρ (ds ++ es) (vs ++ ws) (fun x => A x + A' x) (fun x => F x + F' x)
  | _, _, _, _, _, _, _, _, .nil a f, s => s.cong (fun x => by show _ + _ = _; rw [a]; omega) (fun x => by show _ + _ = _; rw [f]; omega)
  | _, _, _, _, _, _, _, _, .cons h t e1 e2, s => .cons h (Reps.append t s) (fun x => by show _ + _ = _; rw [e1]; omega) (fun x => by show _ + _ = _; rw [e2]; omega)
theorem Reps.one (h : Rep K mg H ρ d v A F) : Reps K mg H ρ [d] [v] A F := .cons h (.nil (A := c0) (F := c0) (fun _ => rfl) (fun _ => rfl)) (fun _ => rfl) (fun _ => rfl)
theorem Reps.split : ∀ {ds es : List D} {vs : List V} {A F : Cnt}, Reps K mg H ρ (ds ++ es) vs A F →
    ∃ ws us a f a' f', vs = ws ++ us ∧ Reps K mg H ρ ds ws a f ∧ Reps K mg H ρ es us a' f' ∧ ∀ x, A x = a x + a' x ∧ F x = f x + f' x
  | [], es, vs, A, F, h => ⟨[], vs, c0, c0, A, F, rfl, .nil (fun _ => rfl) (fun _ => rfl), h, fun x => by simp [c0]⟩
  | d :: ds, es, _, _, _, .cons h t e1 e2 => by
    obtain ⟨ws, us, a, f, a', f', e, r1, r2, q⟩ := Reps.split t
    subst e
    exact ⟨_ :: ws, us, _, _, a', f', rfl, .cons h r1 (fun _ => rfl) (fun _ => rfl), r2, fun x => by rw [e1, e2]; have := q x; omega⟩
theorem Reps.reverse : ∀ {ds : List D} {vs : List V} {A F : Cnt}, Reps K mg H ρ ds vs A F → Reps K mg H ρ ds.reverse vs.reverse A F
  | _, _, _, _, .nil a f => .nil a f
  | _, _, _, _, .cons h t e1 e2 => by
    rw [List.reverse_cons, List.reverse_cons]
    exact (Reps.append (Reps.reverse t) (Reps.one h)).cong (fun x => by rw [e1]; omega) (fun x => by rw [e2]; omega)
end
end Zm
set_option Elab.async false
set_option linter.all false
set_option maxRecDepth 100000
set_option autoImplicit false
/-! Z1: the state of the machine, what an expression's tree promises. -/
namespace Zm
open PySem PySem.Spec PyProof.Rows L2
theorem no0 {x : Addr} {P : Prop} (h : 1 ≤ c0 x) : P := absurd h (by show ¬ 1 ≤ 0; omega)
abbrev Xc := Str × Option Int
inductive R (α : Type) where
  | ok (a : α) (s : Sto) | ex (x : Xc) (s : Sto) | bad
def R.bind {α β : Type} (r : R α) (k : α → Sto → R β) : R β := match r with
  | .ok a s => k a s
  | .ex x s => .ex x s
  | .bad => .bad
@[simp] theorem R.bind_ok {α β : Type} {a : α} {s : Sto} {k : α → Sto → R β} : (R.ok a s).bind k = k a s := rfl
@[simp] theorem R.bind_ex {α β : Type} {x : Xc} {s : Sto} {k : α → Sto → R β} : (R.ex x s : R α).bind k = .ex x s := rfl
@[simp] theorem R.bind_bad {α β : Type} {k : α → Sto → R β} : (R.bad : R α).bind k = .bad := rfl
abbrev M := Env → Sto → R D
abbrev Fn := List D → Sto → R D
def R.of {α : Type} (d : Option α) (s : Sto) : R α := match d with
  | some d => .ok d s
  | none => .bad
@[simp] theorem R.of_some {α : Type} {d : α} {s : Sto} : R.of (some d) s = .ok d s := rfl
@[simp] theorem R.of_none {α : Type} {s : Sto} : R.of (none : Option α) s = .bad := rfl
section
variable (K : PySem.W.Frag) (mg : Str → Option Value)
/-- the store's lists, where they stand -/
structure Wd (ρ : List Addr) (s : Sto) (H : Hp) : Prop where
  len : ρ.length = s.length
  nd : ρ.Nodup
  at_ : ∀ (n : Nat) (p : Addr) (xs : List D), ρ[n]? = some p → s[n]? = some xs → plains xs = true ∧ ∃ vs a f, H p = some (.lst vs) ∧ Reps K mg H ρ xs vs a f
inductive EnvR (H : Hp) (ρ : List Addr) : Env → L2.St → Cnt → Cnt → Prop
  | nil {A F : Cnt} : (∀ x, A x = 0) → (∀ x, F x = 0) → EnvR H ρ [] [] A F
  | no {σm : Env} {w : Option V} {σ : L2.St} {A F : Cnt} : EnvR H ρ σm σ A F → EnvR H ρ (none :: σm) (w :: σ) A F
  | yes {d : D} {v : V} {σm : Env} {σ : L2.St} {a f a' f' A F : Cnt} : Rep K mg H ρ d v a f → EnvR H ρ σm σ a' f' → (∀ x, A x = a x + a' x) → (∀ x, F x = f x + f' x) → EnvR H ρ (some d :: σm) (some v :: σ) A F
structure Rel (σm : Env) (s : Sto) (σ : L2.St) (H : Hp) (ρ : List Addr) (A F : Cnt) : Prop where
  env : EnvR K mg H ρ σm σ A F
  wd : Wd K mg ρ s H
  sep : ∀ x, A x ≤ 1 ∧ (1 ≤ A x → F x = 0)
end
/-- an exception of the machine, as it lies -/
def RepX (mg : Str → Option Value) (H : Hp) (x : Xc) (cls : Value) (dd : Option Addr) : Prop :=
  ∃ C, mg x.1 = some (.ref C) ∧ cls = .ref C ∧ match x.2 with
    | none => dd = none
    | some m => ∃ q, dd = some q ∧ H q = some (.xd [("many", .int m)])
section
variable {K : PySem.W.Frag} {mg : Str → Option Value} {H H' H1 : Hp} {ρ ρ' ρ1 : List Addr} {σm : Env} {σ : L2.St} {s s' s1 : Sto} {d e : D} {ds es : List D} {v : V} {vs ws : List V} {A F A' F' a f Mc : Cnt}
theorem EnvR.cong : EnvR K mg H ρ σm σ A F → (∀ x, A' x = A x) → (∀ x, F' x = F x) → EnvR K mg H ρ σm σ A' F' := by
  intro h hA hF
  have : A' = A := funext hA
  have : F' = F := funext hF
  subst_vars; exact h
theorem EnvR.length : ∀ {σm : Env} {σ : L2.St} {A F : Cnt}, EnvR K mg H ρ σm σ A F → σm.length = σ.length
  | _, _, _, _, .nil _ _ => rfl
  | _, _, _, _, .no t => congrArg (· + 1) t.length
  | _, _, _, _, .yes _ t _ _ => congrArg (· + 1) t.length
theorem EnvR.frame (fr : Fr Mc H H' ρ ρ') : ∀ {σm : Env} {σ : L2.St} {A F : Cnt}, EnvR K mg H ρ σm σ A F → (∀ x, 1 ≤ Mc x → A x = 0 ∧ F x = 0) → EnvR K mg H' ρ' σm σ A F
  | _, _, _, _, .nil a f, _ => .nil a f
  | _, _, _, _, .no t, hm => .no (EnvR.frame fr t hm)
  | _, _, _, _, .yes h t e1 e2, hm => .yes (h.frame fr fun x hx => by have := hm x hx; rw [e1, e2] at this; omega) (EnvR.frame fr t fun x hx => by have := hm x hx; rw [e1, e2] at this; omega) e1 e2
theorem EnvR.there : ∀ {σm : Env} {σ : L2.St} {A F : Cnt}, EnvR K mg H ρ σm σ A F → ∀ x, 1 ≤ A x + F x → (∃ o, H x = some o) ∧ x ∉ ρ
  | _, _, _, _, .nil a f, x, hx => by rw [a, f] at hx; omega
  | _, _, _, _, .no t, x, hx => EnvR.there t x hx
  | _, _, _, _, .yes (a := a) (f := f) h t e1 e2, x, hx => by
    rw [e1, e2] at hx
    by_cases z : 1 ≤ a x + f x
    · exact h.there x z
    · exact EnvR.there t x (by omega)
theorem EnvR.get : ∀ {σm : Env} {σ : L2.St} {A F : Cnt} {i : Nat} {d : D}, EnvR K mg H ρ σm σ A F → σm[i]? = some (some d) → ∃ v a f, σ[i]? = some (some v) ∧ Rep K mg H ρ d v a f ∧ ∀ x, a x ≤ A x ∧ f x ≤ F x
  | _, _, _, _, i, _, .nil _ _, e => by simp at e
  | _, _, _, _, 0, _, .no _, e => by simp at e
  | _, _, _, _, i + 1, _, .no t, e => by
    obtain ⟨v, a, f, q⟩ := EnvR.get t (i := i) (by simpa using e)
    exact ⟨v, a, f, by simpa using q⟩
  | _, _, _, _, 0, _, .yes h t e1 e2, e => by
    simp at e; subst e
    exact ⟨_, _, _, rfl, h, fun x => by rw [e1, e2]; omega⟩
  | _, _, _, _, i + 1, _, .yes h t e1 e2, e => by
    obtain ⟨v, a, f, q1, q2, q3⟩ := EnvR.get t (i := i) (by simpa using e)
    exact ⟨v, a, f, by simpa using q1, q2, fun x => by have := q3 x; rw [e1, e2]; omega⟩
/-- a slot stored: what it held goes -/
theorem EnvR.set : ∀ {σm : Env} {σ : L2.St} {A F : Cnt} (i : Nat) {d : D} {v : V} {a f : Cnt}, EnvR K mg H ρ σm σ A F → Rep K mg H ρ d v a f → i < σm.length →
    ∃ A' F', EnvR K mg H ρ (σm.set i (some d)) (σ.set i (some v)) A' F' ∧ (∀ x, A' x ≤ A x + a x ∧ F' x ≤ F x + f x) ∧
      ∀ e, σm[i]? = some (some e) → ∃ w a0 f0, σ[i]? = some (some w) ∧ Rep K mg H ρ e w a0 f0 ∧ ∀ x, A' x + a0 x = A x + a x ∧ F' x + f0 x = F x + f x
  | _, _, _, _, i, _, _, _, _, .nil _ _, _, hi => by simp at hi
  | _, _, _, _, 0, _, _, _, _, .no t, r, _ => ⟨_, _, .yes r t (fun _ => rfl) (fun _ => rfl), fun x => by constructor <;> show _ + _ ≤ _ <;> omega, fun e q => by simp at q⟩
  | _, _, _, _, i + 1, _, _, _, _, .no t, r, hi => by
    obtain ⟨A', F', q1, q2, q3⟩ := EnvR.set i t r (by simpa using hi)
    exact ⟨A', F', .no q1, q2, fun e q => q3 e (by simpa using q)⟩
  | _, _, _, _, 0, _, _, _, _, .yes h t e1 e2, r, _ => by
    refine ⟨_, _, .yes r t (fun _ => rfl) (fun _ => rfl), fun x => by rw [e1, e2]; omega, fun e q => ?_⟩
    simp at q; subst q
    exact ⟨_, _, _, rfl, h, fun x => by rw [e1, e2]; omega⟩
  | _, _, _, _, i + 1, _, _, _, _, .yes h t e1 e2, r, hi => by
    obtain ⟨A', F', q1, q2, q3⟩ := EnvR.set i t r (by simpa using hi)
    refine ⟨_, _, .yes h q1 (fun _ => rfl) (fun _ => rfl), fun x => by have := q2 x; rw [e1, e2]; omega, fun e q => ?_⟩
    obtain ⟨w, a0, f0, z1, z2, z3⟩ := q3 e (by simpa using q)
    exact ⟨w, a0, f0, by simpa using z1, z2, fun x => by have := z3 x; rw [e1, e2]; omega⟩
/-- fewer slots known -/
theorem EnvR.less : ∀ {σm σn : Env} {σ : L2.St} {A F : Cnt}, EnvR K mg H ρ σm σ A F → σn.length = σm.length → (∀ (i : Nat) (d : D), σn[i]? = some (some d) → σm[i]? = some (some d)) →
    ∃ A' F', EnvR K mg H ρ σn σ A' F' ∧ ∀ x, A' x ≤ A x ∧ F' x ≤ F x
  | [], [], _, _, _, .nil a f, _, _ => ⟨_, _, .nil a f, fun x => ⟨Nat.le_refl _, Nat.le_refl _⟩⟩
  | _ :: _, n :: σn, _, _, _, .no t, hl, hi => by
    obtain ⟨A', F', r, q⟩ := EnvR.less t (σn := σn) (by simpa using hl) fun i d e => by simpa using hi (i + 1) d (by simpa using e)
    cases n with
    | none => exact ⟨A', F', .no r, q⟩
    | some d => have := hi 0 d rfl; simp at this
  | _ :: _, n :: σn, _, _, _, .yes h t e1 e2, hl, hi => by
    obtain ⟨A', F', r, q⟩ := EnvR.less t (σn := σn) (by simpa using hl) fun i d e => by simpa using hi (i + 1) d (by simpa using e)
    cases n with
    | none => exact ⟨A', F', .no r, fun x => by have := q x; rw [e1, e2]; omega⟩
    | some d =>
      have := hi 0 d rfl
      simp at this; subst this
      exact ⟨_, _, .yes h r (fun _ => rfl) (fun _ => rfl), fun x => by have := q x; rw [e1, e2]; omega⟩
theorem Wd.same (w : Wd K mg ρ s H) (h : Same H H') : Wd K mg ρ s H' := by
  have fr : Fr c0 H H' ρ ρ := ⟨fun x o e => .inl (h x o e), fun x e => h.free e, [], by simp, by simp⟩
  refine ⟨w.len, w.nd, fun n p xs e1 e2 => ?_⟩
  obtain ⟨q, vs, a, f, q1, q2⟩ := w.at_ n p xs e1 e2
  exact ⟨q, vs, a, f, h _ _ q1, q2.frame fr fun x hx => by simp [c0] at hx⟩
theorem Wd.lst (w : Wd K mg ρ s H) {p : Addr} (h : p ∈ ρ) : ∃ l, H p = some (.lst l) := by
  obtain ⟨n, hn⟩ := List.getElem?_of_mem h
  have hl := (List.getElem?_eq_some_iff.mp hn).1
  rw [w.len] at hl
  obtain ⟨_, vs, _, _, q, _⟩ := w.at_ n p _ hn (List.getElem?_eq_getElem hl)
  exact ⟨vs, q⟩
theorem Fr.of_same (h : Same H H') : Fr Mc H H' ρ ρ := ⟨fun x o e => .inl (h x o e), fun x e => h.free e, [], by simp, by simp⟩
theorem Rel.next (r : Rel K mg σm s σ H ρ A F) (fr : Fr c0 H H' ρ ρ') (w : Wd K mg ρ' s' H') : Rel K mg σm s' σ H' ρ' A F :=
  ⟨r.env.frame fr fun _ hx => no0 hx, w, r.sep⟩
/-- the counts of a result, against the slots' and the heap at the start -/
def Gd (A F : Cnt) (H : Hp) (a f : Cnt) : Prop := ∀ x, a x ≤ 1 ∧ (1 ≤ a x → f x = 0 ∧ H x = none) ∧ (1 ≤ f x → 1 ≤ A x ∨ 1 ≤ F x ∨ H x = none)
/-- .. against the arguments' -/
def Out (a f : Cnt) (H : Hp) (a' f' : Cnt) : Prop := ∀ x, a' x ≤ 1 ∧ (1 ≤ a' x → f' x = 0 ∧ (H x = none ∨ 1 ≤ a x)) ∧ (1 ≤ f' x → 1 ≤ a x ∨ 1 ≤ f x ∨ H x = none)
def Sp1 (a f : Cnt) : Prop := ∀ x, a x ≤ 1 ∧ (1 ≤ a x → f x = 0)
theorem Gd.sp (g : Gd A F H a f) : Sp1 a f := fun x => ⟨(g x).1, fun h => ((g x).2.1 h).1⟩
theorem Out.sp (g : Out A F H a f) : Sp1 a f := fun x => ⟨(g x).1, fun h => ((g x).2.1 h).1⟩
theorem Gd.out {a' f' : Cnt} (g : Gd A F H a f) (fr : Fr c0 H H1 ρ ρ1) (o : Out a f H1 a' f') : Gd A F H a' f' := fun x => by
  obtain ⟨o1, o2, o3⟩ := o x
  obtain ⟨g1, g2, g3⟩ := g x
  refine ⟨o1, fun h => ⟨(o2 h).1, ?_⟩, fun h => ?_⟩
  · rcases (o2 h).2 with z | z
    · exact fr.there x z
    · exact (g2 z).2
  · rcases o3 h with z | z | z
    · exact .inr (.inr (g2 z).2)
    · exact g3 z
    · exact .inr (.inr (fr.there x z))
theorem Gd.zero (ha : ∀ x, a x = 0) (hf : ∀ x, f x = 0) : Gd A F H a f := fun x => by rw [ha, hf]; omega
theorem Out.zero {a' f' : Cnt} (ha : ∀ x, a' x = 0) (hf : ∀ x, f' x = 0) : Out a f H a' f' := fun x => by rw [ha, hf]; omega
theorem Rep.on (r : Rep K mg H ρ d v A F) (fr : Fr c0 H H' ρ ρ') : Rep K mg H' ρ' d v A F := r.frame fr fun _ hx => no0 hx
theorem Reps.on (r : Reps K mg H ρ ds vs A F) (fr : Fr c0 H H' ρ ρ') : Reps K mg H' ρ' ds vs A F := r.frame fr fun _ hx => no0 hx
theorem Rep.sm (r : Rep K mg H ρ d v A F) (h : Same H H') : Rep K mg H' ρ d v A F := r.on (Fr.of_same h)
theorem Reps.sm (r : Reps K mg H ρ ds vs A F) (h : Same H H') : Reps K mg H' ρ ds vs A F := r.on (Fr.of_same h)
theorem Fr.tr (a : Fr c0 H H1 ρ ρ1) (b : Fr c0 H1 H' ρ1 ρ') : Fr c0 H H' ρ ρ' := a.trans b fun _ hx => no0 hx
theorem same_upd {H : Hp} {p : Addr} {o : HO} (hp : H p = none) : Same H (upd H p o) := fun x u e => by rw [upd_ne (ne_of_none e hp)]; exact e
/-! ### an expression's reading -/
section
variable (K mg) (W : WX) (σ : L2.St) (A F : Cnt) (H : Hp) (ρ : List Addr)
def oE (Q : VK) : R D → Prop
  | .ok d s' => ∀ v H' ρ' a f, Fr c0 H H' ρ ρ' → Wd K mg ρ' s' H' → Rep K mg H' ρ' d v a f → Gd A F H a f → Q v H'
  | .ex x s' => ∀ cls dd H' ρ', Fr c0 H H' ρ ρ' → Wd K mg ρ' s' H' → RepX mg H' x cls dd → W cls dd σ H'
  | .bad => False
def oA (Q : List V → Hp → Prop) : R (List D) → Prop
  | .ok ds s' => ∀ vs H' ρ' a f, Fr c0 H H' ρ ρ' → Wd K mg ρ' s' H' → Reps K mg H' ρ' ds vs a f → Gd A F H a f → Q vs H'
  | .ex x s' => ∀ cls dd H' ρ', Fr c0 H H' ρ ρ' → Wd K mg ρ' s' H' → RepX mg H' x cls dd → W cls dd σ H'
  | .bad => False
end
section
variable (K : PySem.W.Frag) (mg : Str → Option Value) (W : WX)
def rE (m : M) : TE := fun σ H Q => ∃ σm s ρ A F, Rel K mg σm s σ H ρ A F ∧ oE K mg W σ A F H ρ Q (m σm s)
def rA (m : Env → Sto → R (List D)) : TA := fun σ H Q => ∃ σm s ρ A F, Rel K mg σm s σ H ρ A F ∧ oA K mg W σ A F H ρ Q (m σm s)
end
@[simp] def mArgs : List M → Env → Sto → R (List D)
  | [], _, s => .ok [] s
  | m :: ms, σ, s => (m σ s).bind fun d s1 => (mArgs ms σ s1).bind fun ds s2 => .ok (d :: ds) s2
end
def SE (X : Cx) (W : WX) (e : Expr) (m : M) : Prop := PE X e (rE X.K X.mg W m)
def SA (X : Cx) (W : WX) (es : List Expr) (ms : List M) : Prop := PA X es (rA X.K X.mg W (mArgs ms))
theorem PE.imp {X : Cx} {e : Expr} {t t' : TE} (h : PE X e t) (q : ∀ σ H Q, t' σ H Q → t σ H Q) : PE X e t' := ⟨fun pins s σ H Q I w => h.run pins s σ H Q I (q σ H Q w)⟩
theorem PT.imp {X : Cx} {e : Expr} {t t' : TT} (h : PT X e t) (q : ∀ σ H Q, t' σ H Q → t σ H Q) : PT X e t' := ⟨fun pins s σ H Q I w => h.run pins s σ H Q I (q σ H Q w)⟩
theorem PA.imp {X : Cx} {e : List Expr} {t t' : TA} (h : PA X e t) (q : ∀ σ H Q, t' σ H Q → t σ H Q) : PA X e t' := ⟨fun pos pins s σ H Q I w => h.run pos pins s σ H Q I (q σ H Q w)⟩
theorem PS.imp {X : Cx} {e : Stmt} {t t' : TS} (h : PS X e t) (q : ∀ D σ H, t' D σ H → t D σ H) : PS X e t' := ⟨fun pins s σ H D I w => h.run pins s σ H D I (q D σ H w)⟩
theorem PSs.imp {X : Cx} {e : List Stmt} {t t' : TS} (h : PSs X e t) (q : ∀ D σ H, t' D σ H → t D σ H) : PSs X e t' := ⟨fun pins s σ H D I w => h.run pins s σ H D I (q D σ H w)⟩
section
variable {K : PySem.W.Frag} {mg : Str → Option Value} {W : WX} {m : M} {ms : List M} {σ : L2.St} {H : Hp}
theorem rA_nil {R : List V → Hp → Prop} (h : rA K mg W (mArgs []) σ H R) : R [] H := by
  obtain ⟨σm, s, ρ, A, F, rel, h⟩ := h
  exact h [] H ρ c0 c0 .refl rel.wd (.nil (fun _ => rfl) (fun _ => rfl)) (.zero (fun _ => rfl) (fun _ => rfl))
theorem rA_cons {R : List V → Hp → Prop} (h : rA K mg W (mArgs (m :: ms)) σ H R) : rE K mg W m σ H fun x H1 => rA K mg W (mArgs ms) σ H1 fun xs H2 => R (x :: xs) H2 := by
  obtain ⟨σm, s, ρ, A, F, rel, h⟩ := h
  refine ⟨σm, s, ρ, A, F, rel, ?_⟩
  unfold mArgs at h
  cases e1 : m σm s with
  | bad => rw [e1] at h; exact h
  | ex x s1 => rw [e1] at h; exact h
  | ok d s1 =>
    rw [e1] at h
    intro v H1 ρ1 a f fr wd rp g
    refine ⟨σm, s1, ρ1, A, F, rel.next fr wd, ?_⟩
    rw [Zm.R.bind_ok] at h
    cases e2 : mArgs ms σm s1 with
    | bad => rw [e2] at h; exact h
    | ex x s2 =>
      rw [e2] at h
      intro cls dd H2 ρ2 fr2 wd2 rx
      exact h cls dd H2 ρ2 (fr.trans fr2 fun _ hx => no0 hx) wd2 rx
    | ok ds s2 =>
      rw [e2] at h
      intro vs H2 ρ2 a2 f2 fr2 wd2 rp2 g2
      refine h (v :: vs) H2 ρ2 (fun x => a x + a2 x) (fun x => f x + f2 x) (fr.trans fr2 fun _ hx => no0 hx) wd2 (.cons (rp.frame fr2 fun _ hx => no0 hx) rp2 (fun _ => rfl) (fun _ => rfl)) fun x => ?_
      obtain ⟨p1, p2, p3⟩ := g x
      obtain ⟨q1, q2, q3⟩ := g2 x
      have th := rp.there x
      have ev := rel.env.there x
      have n1 : H1 x = none → H x = none := fr.there x
      by_cases ha : 1 ≤ a x
      · obtain ⟨⟨o, ho⟩, _⟩ := th (by omega)
        have z2 : a2 x = 0 := by
          cases q : a2 x with
          | zero => rfl
          | succ k => have := (q2 (by omega)).2; rw [ho] at this; cases this
        have z3 : f2 x = 0 := by
          cases q : f2 x with
          | zero => rfl
          | succ k =>
            have hn := (p2 ha).2
            rcases q3 (by omega) with z | z | z
            · obtain ⟨⟨o', ho'⟩, _⟩ := ev (by omega); rw [hn] at ho'; cases ho'
            · obtain ⟨⟨o', ho'⟩, _⟩ := ev (by omega); rw [hn] at ho'; cases ho'
            · rw [ho] at z; cases z
        have := p2 ha
        refine ⟨by show a x + a2 x ≤ 1; omega, fun _ => ⟨by show f x + f2 x = 0; omega, this.2⟩, fun h => ?_⟩
        have h : 1 ≤ f x + f2 x := h
        omega
      · have ha0 : a x = 0 := by omega
        refine ⟨by show a x + a2 x ≤ 1; omega, fun h => ?_, fun h => ?_⟩
        · have h : 1 ≤ a x + a2 x := h
          have z := q2 (by omega)
          have zf : f x = 0 := by
            cases q : f x with
            | zero => rfl
            | succ k => obtain ⟨⟨o, ho⟩, _⟩ := th (by omega); rw [z.2] at ho; cases ho
          exact ⟨by show f x + f2 x = 0; omega, n1 z.2⟩
        · have h : 1 ≤ f x + f2 x := h
          by_cases z : 1 ≤ f x
          · exact p3 z
          · rcases q3 (by omega) with y | y | y
            · exact .inl y
            · exact .inr (.inl y)
            · exact .inr (.inr (n1 y))
end
section
variable {X : Cx} {W : WX} {e : Expr} {es : List Expr} {m ma mb mc : M} {ms : List M} {pos : Pos}
theorem sa_nil : SA X W [] [] := PA.imp pa_nil fun σ H Q h => rA_nil h
theorem sa_cons (he : SE X W e m) (hs : SA X W es ms) (hst : starEach (e :: es) X.env = (false, eval e X.env) :: starEach es X.env := by rfl) : SA X W (e :: es) (m :: ms) :=
  PA.imp (pa_cons he hs hst) fun σ H Q h => rA_cons h
/-! ### what values make of values -/
/-- by values: the arguments ds give d; only new objects come -/
def OpV (K : PySem.W.Frag) (mg : Str → Option Value) (r : List V → Hp → VK → Prop) (g : Sto → List D → Option D) : Prop :=
  ∀ ρ s H ds vs a f d, Wd K mg ρ s H → Reps K mg H ρ ds vs a f → Sp1 a f → g s ds = some d → ∀ Q : VK, (∀ v H' a' f', Same H H' → Rep K mg H' ρ d v a' f' → Out a f H a' f' → Q v H') → r vs H Q
@[simp] def mOp (g : Sto → List D → Option D) (ms : List M) : M := fun σ s => (mArgs ms σ s).bind fun ds s' => R.of (g s' ds) s'
theorem rA_op {K : PySem.W.Frag} {mg : Str → Option Value} {W : WX} {σ : L2.St} {H : Hp} {Q : VK} {r : List V → Hp → VK → Prop} {g : Sto → List D → Option D} (ho : OpV K mg r g) (h : rE K mg W (mOp g ms) σ H Q) : rA K mg W (mArgs ms) σ H fun vs H' => r vs H' Q := by
  obtain ⟨σm, s, ρ, A, F, rel, h⟩ := h
  refine ⟨σm, s, ρ, A, F, rel, ?_⟩
  unfold mOp at h
  cases e1 : mArgs ms σm s with
  | bad => rw [e1] at h; exact h
  | ex x s1 => rw [e1] at h; exact h
  | ok ds s1 =>
    rw [e1, Zm.R.bind_ok] at h
    intro vs H1 ρ1 a f fr wd rp g1
    cases e2 : g s1 ds with
    | none => rw [e2] at h; exact h.elim
    | some d =>
      rw [e2] at h
      exact ho ρ1 s1 H1 ds vs a f d wd rp g1.sp e2 Q fun v H2 a' f' sm rp2 o => h v H2 ρ1 a' f' (fr.trans (Fr.of_same (Mc := c0) sm) fun _ hx => no0 hx) (wd.same sm) rp2 (g1.out fr o)
abbrev r2 (r : R2) : List V → Hp → VK → Prop := fun vs H Q => ∃ x y, vs = [x, y] ∧ r x y H Q
abbrev r1 (r : V → Hp → VK → Prop) : List V → Hp → VK → Prop := fun vs H Q => ∃ x, vs = [x] ∧ r x H Q
theorem rA_2 {K : PySem.W.Frag} {mg : Str → Option Value} {W : WX} {σ : L2.St} {H : Hp} {Q : List V → Hp → Prop} (h : rA K mg W (mArgs [ma, mb]) σ H Q) : rE K mg W ma σ H fun x H1 => rE K mg W mb σ H1 fun y H2 => Q [x, y] H2 := by
  obtain ⟨σm, s, ρ, A, F, rel, h⟩ := rA_cons h
  refine ⟨σm, s, ρ, A, F, rel, ?_⟩
  cases e1 : ma σm s with
  | bad => rw [e1] at h; exact h
  | ex x s1 => rw [e1] at h; exact h
  | ok d s1 =>
    rw [e1] at h
    intro v H1 ρ1 a f fr wd rp g
    obtain ⟨σm, s, ρ, A, F, rel, h⟩ := rA_cons (h v H1 ρ1 a f fr wd rp g)
    refine ⟨σm, s, ρ, A, F, rel, ?_⟩
    cases e2 : mb σm s with
    | bad => rw [e2] at h; exact h
    | ex x s1 => rw [e2] at h; exact h
    | ok d s1 =>
      rw [e2] at h
      intro v H1 ρ1 a f fr wd rp g
      exact rA_nil (h v H1 ρ1 a f fr wd rp g)
theorem rA_1 {K : PySem.W.Frag} {mg : Str → Option Value} {W : WX} {σ : L2.St} {H : Hp} {Q : List V → Hp → Prop} (h : rA K mg W (mArgs [ma]) σ H Q) : rE K mg W ma σ H fun x H1 => Q [x] H1 := by
  obtain ⟨σm, s, ρ, A, F, rel, h⟩ := rA_cons h
  refine ⟨σm, s, ρ, A, F, rel, ?_⟩
  cases e1 : ma σm s with
  | bad => rw [e1] at h; exact h
  | ex x s1 => rw [e1] at h; exact h
  | ok d s1 =>
    rw [e1] at h
    intro v H1 ρ1 a f fr wd rp g
    exact rA_nil (h v H1 ρ1 a f fr wd rp g)
theorem rE_mono {K : PySem.W.Frag} {mg : Str → Option Value} {W : WX} {σ : L2.St} {H : Hp} {Q Q' : VK} (h : rE K mg W m σ H Q) (q : ∀ v H', Q v H' → Q' v H') : rE K mg W m σ H Q' := by
  obtain ⟨σm, s, ρ, A, F, rel, h⟩ := h
  refine ⟨σm, s, ρ, A, F, rel, ?_⟩
  cases e1 : m σm s with
  | bad => rw [e1] at h; exact h
  | ex x s1 => rw [e1] at h; exact h
  | ok d s1 =>
    rw [e1] at h
    intro v H1 ρ1 a f fr wd rp g
    exact q _ _ (h v H1 ρ1 a f fr wd rp g)
theorem s_bin {a b : Expr} {op : Operator} {r : R2} {g : Sto → List D → Option D} (ho : OpR X (binaryOp op) r) (hv : OpV X.K X.mg (r2 r) g) (ha : SE X W a ma) (hb : SE X W b mb) : SE X W (.BinOp a op b pos) (mOp g [ma, mb]) :=
  PE.imp (pe_op ho ha hb) fun σ H Q h => rE_mono (rA_2 (rA_op hv h)) fun v H1 q => rE_mono q fun u H2 ⟨x, y, e, z⟩ => by cases e; exact z
theorem s_un {a : Expr} {op : UnaryOp} {r : V → Hp → VK → Prop} {g : Sto → List D → Option D} (ho : UnR X (unaryOp op) r) (hv : OpV X.K X.mg (r1 r) g) (ha : SE X W a ma) : SE X W (.UnaryOp op a pos) (mOp g [ma]) :=
  PE.imp (pe_un ho ha) fun σ H Q h => rE_mono (rA_1 (rA_op hv h)) fun v H1 ⟨x, e, z⟩ => by cases e; exact z
theorem s_cmp {a b : Expr} {op : CmpOp} {r : R2} {g : Sto → List D → Option D} (ho : OpR X (compareOp op) r) (hv : OpV X.K X.mg (r2 r) g) (ha : SE X W a ma) (hb : SE X W b mb) (hm : behindInMarks op b = false := by first | exact nomark _ | rfl) : SE X W (.Compare a [op] [b] pos) (mOp g [ma, mb]) :=
  PE.imp (pe_cmpR ho ha hb hm) fun σ H Q h => rE_mono (rA_2 (rA_op hv h)) fun v H1 q => rE_mono q fun u H2 ⟨x, y, e, z⟩ => by cases e; exact z
/-- a built-in by its name -/
theorem s_blt {x : Str} {id : String} {p : Pos} {r : List V → Hp → VK → Prop} {g : Sto → List D → Option D} (ho : CallR X (.builtin id) r) (hv : OpV X.K X.mg r g) (hm : X.mg x = none) (hb : bootBuiltins x = some (.builtin id)) (ha : SA X W (e :: es) ms) (hg : Gl X x := by rfl)
    (hn : x ≠ "__name__" := by decide) (hdb : (x == ("__debug__" : Str)) = false := by decide) (he : starEach (e :: es) X.env = (false, eval e X.env) :: starEach es X.env := by rfl) (hpl : (backTo pos (starEach es X.env)).any (·.1) = false := by rfl) : SE X W (.Call (.Name x p) (e :: es) [] pos) (mOp g ms) :=
  PE.imp (pe_callB ho hg hm hb ha hn hdb he hpl) fun σ H Q h => rA_op hv h
theorem s_blty {x : Str} {T : String} {p : Pos} {r : List V → Hp → VK → Prop} {g : Sto → List D → Option D} (ho : CallR X (.type T) r) (hv : OpV X.K X.mg r g) (hm : X.mg x = none) (hb : bootBuiltins x = some (.type T)) (ha : SA X W (e :: es) ms) (hg : Gl X x := by rfl)
    (hn : x ≠ "__name__" := by decide) (hdb : (x == ("__debug__" : Str)) = false := by decide) (he : starEach (e :: es) X.env = (false, eval e X.env) :: starEach es X.env := by rfl) (hpl : (backTo pos (starEach es X.env)).any (·.1) = false := by rfl) : SE X W (.Call (.Name x p) (e :: es) [] pos) (mOp g ms) :=
  PE.imp (pe_callTy ho hg hm hb ha hn hdb he hpl) fun σ H Q h => rA_op hv h
/-! ### names and constants -/
@[simp] def mVar (i : Nat) : M := fun σ s => match σ[i]? with
  | some (some d) => .ok (fz d) s
  | _ => .bad
@[simp] def mC (d : D) : M := fun _ s => .ok d s
theorem rE_var {K : PySem.W.Frag} {mg : Str → Option Value} {W : WX} {i : Nat} {σ : L2.St} {H : Hp} {Q : VK} (h : rE K mg W (mVar i) σ H Q) : tVar i σ H Q := by
  obtain ⟨σm, s, ρ, A, F, rel, h⟩ := h
  unfold mVar at h
  cases e : σm[i]? with
  | none => rw [e] at h; exact h.elim
  | some o =>
    cases o with
    | none => rw [e] at h; exact h.elim
    | some d =>
      rw [e] at h
      obtain ⟨v, a, f, e2, rp, le⟩ := rel.env.get e
      obtain ⟨f', rp', q⟩ := rp.fz
      exact ⟨v, e2, h v H ρ c0 f' .refl rel.wd rp' fun x => ⟨by simp [c0], fun z => by simp [c0] at z, fun z => by have := q x z; have := le x; omega⟩⟩
theorem s_var (i : Nat) {x : Str} {pos : Pos} (hN : X.N[i]? = some x := by rfl) (hv : Vis X.env.scope x := by first | exact Or.inl rfl | exact Or.inr (Or.inl rfl) | exact Or.inr (Or.inr rfl)) (hd : (x == ("__debug__" : Str)) = false := by decide)
    (hcd : (x == ("__classdict__" : Str)) = false := by decide) : SE X W (.Name x pos) (mVar i) := PE.imp (pe_var hN hv hd hcd) fun σ H Q h => rE_var h
theorem rE_c {K : PySem.W.Frag} {mg : Str → Option Value} {W : WX} {d : D} {v : V} {σ : L2.St} {H : Hp} {Q : VK} (hr : ∀ H ρ, Rep K mg H ρ d v c0 c0) (h : rE K mg W (mC d) σ H Q) : tC v σ H Q := by
  obtain ⟨σm, s, ρ, A, F, rel, h⟩ := h
  exact h v H ρ c0 c0 .refl rel.wd (hr H ρ) (.zero (fun _ => rfl) (fun _ => rfl))
theorem s_int {i j pos} : SE X W (.Constant (.int i) j pos) (mC (.int i)) := PE.imp pe_int fun σ H Q h => rE_c (fun _ _ => .int (fun _ => rfl) (fun _ => rfl)) h
theorem s_bl {i j pos} : SE X W (.Constant (.bool i) j pos) (mC (.bl i)) := PE.imp pe_bl fun σ H Q h => rE_c (fun _ _ => .bl (fun _ => rfl) (fun _ => rfl)) h
theorem s_non {j pos} : SE X W (.Constant .none j pos) (mC .non) := PE.imp pe_non fun σ H Q h => rE_c (fun _ _ => .non (fun _ => rfl) (fun _ => rfl)) h
theorem s_str {x j pos} : SE X W (.Constant (.str x) j pos) (mC (.str x)) := PE.imp pe_str fun σ H Q h => rE_c (fun _ _ => .str (fun _ => rfl) (fun _ => rfl)) h
/-- a constant of the module -/
theorem s_gi {x : Str} {i : Int} {t : Tok} {pos : Pos} (hm : X.mg x = some (.int i t)) (hg : Gl X x := by rfl) (hd : (x == ("__debug__" : Str)) = false := by decide) : SE X W (.Name x pos) (mC (.int i)) :=
  PE.imp (pe_glob (v := .int i) hg hm ⟨t, rfl⟩ hd) fun σ H Q h => rE_c (fun _ _ => .int (fun _ => rfl) (fun _ => rfl)) h
theorem s_gs {x z : Str} {t : Tok} {pos : Pos} (hm : X.mg x = some (.str z t)) (hg : Gl X x := by rfl) (hd : (x == ("__debug__" : Str)) = false := by decide) : SE X W (.Name x pos) (mC (.str z)) :=
  PE.imp (pe_glob (v := .str z) hg hm ⟨t, rfl⟩ hd) fun σ H Q h => rE_c (fun _ _ => .str (fun _ => rfl) (fun _ => rfl)) h
theorem s_fn {x : Str} {f : Addr} {pos : Pos} (hm : X.mg x = some (.ref f)) (hk : PySem.W.keepIn X.K (.ref f) = true) (hg : Gl X x := by rfl) (hd : (x == ("__debug__" : Str)) = false := by decide) : SE X W (.Name x pos) (mC (.fn x)) :=
  PE.imp (pe_glob (v := .ref f) hg hm rfl hd) fun σ H Q h => rE_c (fun _ _ => .fn hm hk (fun _ => rfl) (fun _ => rfl)) h
/-! ### displays -/
def gTup : Sto → List D → Option D := fun _ ds => if ds.length ≤ sizeLine then some (.tup ds) else none
def gLst : Sto → List D → Option D := fun _ ds => if ds.length ≤ sizeLine then some (.lst true ds) else none
theorem new_tup {K : PySem.W.Frag} {mg : Str → Option Value} {H : Hp} {ρ : List Addr} {p : Addr} {ds : List D} {vs : List V} {a f : Cnt} (hp : H p = none) (r : Reps K mg H ρ ds vs a f) : Rep K mg (upd H p (.tup vs)) ρ (.tup ds) (.ref p) a f :=
  .tup upd_same (r.sm (Zm.same_upd hp))
theorem new_lst {K : PySem.W.Frag} {mg : Str → Option Value} {H : Hp} {ρ : List Addr} {s : Sto} {p : Addr} {ds : List D} {vs : List V} {a f : Cnt} (w : Wd K mg ρ s H) (hp : H p = none) (r : Reps K mg H ρ ds vs a f) (h : Sp1 a f) : Rep K mg (upd H p (.lst vs)) ρ (.lst true ds) (.ref p) (fun x => cp p x + a x) f ∧ Out a f H (fun x => cp p x + a x) f := by
  have hn : p ∉ ρ := fun z => by obtain ⟨l, q⟩ := w.lst z; rw [hp] at q; cases q
  have h0 : a p = 0 ∧ f p = 0 := by
    have := r.there p
    by_cases z : 1 ≤ a p + f p
    · obtain ⟨⟨o, q⟩, _⟩ := this z; rw [hp] at q; cases q
    · omega
  refine ⟨.own upd_same hn (r.sm (Zm.same_upd hp)) (fun _ => rfl), fun x => ?_⟩
  have := h x
  by_cases q : x = p
  · subst q
    dsimp only
    rw [cp_same]
    exact ⟨by omega, fun _ => ⟨h0.2, .inl hp⟩, fun z => .inr (.inl z)⟩
  · dsimp only
    rw [cp_ne q]
    exact ⟨by omega, fun z => ⟨this.2 (by omega), .inr (by omega)⟩, fun z => .inr (.inl z)⟩
theorem Out.refl {a f : Cnt} {H : Hp} (h : Sp1 a f) : Out a f H a f := fun x => by have := h x; exact ⟨this.1, fun z => ⟨this.2 z, .inr z⟩, fun z => .inr (.inl z)⟩
theorem v_tup {K mg} : OpV K mg (fun vs H Q => vs.length ≤ sizeLine ∧ ∀ p, H p = none → Q (.ref p) (upd H p (.tup vs))) gTup := by
  intro ρ s H ds vs a f d w r h e Q q
  unfold Zm.gTup at e
  split at e
  · rename_i z
    cases e
    exact ⟨by rw [← r.length]; exact z, fun p hp => q _ _ _ _ (same_upd hp) (new_tup hp r) (.refl h)⟩
  · cases e
theorem v_lst {K mg} : OpV K mg (fun vs H Q => vs.length ≤ sizeLine ∧ ∀ p, H p = none → Q (.ref p) (upd H p (.lst vs))) gLst := by
  intro ρ s H ds vs a f d w r h e Q q
  unfold Zm.gLst at e
  split at e
  · rename_i z
    cases e
    exact ⟨by rw [← r.length]; exact z, fun p hp => q _ _ _ _ (same_upd hp) (new_lst w hp r h).1 (new_lst w hp r h).2⟩
  · cases e
theorem s_tup {x1} (h : SA X W es ms) : SE X W (.Tuple es x1 pos) (mOp Zm.gTup ms) := PE.imp (pe_tup h) fun σ H Q q => rA_op v_tup q
theorem s_lst (h : SA X W es ms) : SE X W (.List es pos) (mOp Zm.gLst ms) := PE.imp (pe_lst h) fun σ H Q q => rA_op v_lst q
/-- a list that is kept in the store -/
def mBox (ms : List M) : M := fun σ s => (mArgs ms σ s).bind fun ds s' => if ds.length ≤ sizeLine ∧ plains ds = true then .ok (.box s'.length) (s' ++ [ds]) else .bad
theorem s_box (h : SA X W es ms) : SE X W (.List es pos) (mBox ms) := PE.imp (pe_lst h) fun σ H Q q => by
  obtain ⟨σm, s, ρ, A, F, rel, q⟩ := q
  refine ⟨σm, s, ρ, A, F, rel, ?_⟩
  unfold mBox at q
  cases e1 : mArgs ms σm s with
  | bad => rw [e1] at q; exact q
  | ex x s1 => rw [e1] at q; exact q
  | ok ds s1 =>
    rw [e1, Zm.R.bind_ok] at q
    intro vs H1 ρ1 a f fr wd rp g1
    by_cases hz : ds.length ≤ sizeLine ∧ plains ds = true
    · rw [if_pos hz] at q
      refine ⟨by rw [← rp.length]; exact hz.1, fun p hp => ?_⟩
      have sm : Same H1 (upd H1 p (.lst vs)) := Zm.same_upd hp
      have hn : p ∉ ρ1 := fun z => by obtain ⟨l, q⟩ := wd.lst z; rw [hp] at q; cases q
      have fr2 : Fr c0 H1 (upd H1 p (.lst vs)) ρ1 (ρ1 ++ [p]) := ⟨fun x o e => .inl (sm x o e), fun x e => sm.free e, [p], rfl, fun y hy => by simp at hy; subst hy; exact hp⟩
      have hc : ∀ {xs : List D} {ws : List V} {a f : Cnt}, Reps X.K X.mg H1 ρ1 xs ws a f → Reps X.K X.mg (upd H1 p (.lst vs)) (ρ1 ++ [p]) xs ws a f := fun r => r.frame fr2 fun _ hx => no0 hx
      refine q (.ref p) _ (ρ1 ++ [p]) c0 c0 (fr.trans fr2 fun _ hx => no0 hx) ⟨by simp [wd.len], ?_, fun n p' xs e1 e2 => ?_⟩ (.box ?_ (fun _ => rfl) (fun _ => rfl)) (.zero (fun _ => rfl) (fun _ => rfl))
      · rw [List.nodup_append]
        exact ⟨wd.nd, by simp, fun a ha b hb => by simp at hb; subst hb; exact fun z => hn (z ▸ ha)⟩
      · by_cases hl : n < s1.length
        · rw [List.getElem?_append_left (by rw [wd.len]; exact hl)] at e1
          rw [List.getElem?_append_left hl] at e2
          obtain ⟨z, ws, a', f', z1, z2⟩ := wd.at_ n p' xs e1 e2
          exact ⟨z, ws, a', f', sm _ _ z1, hc z2⟩
        · have e : n = s1.length := by
            have := (List.getElem?_eq_some_iff.mp e2).1
            simp at this; omega
          subst e
          rw [← wd.len] at e1
          simp [wd.len] at e1 e2
          subst e1 e2
          exact ⟨hz.2, vs, a, f, upd_same, hc rp⟩
      · rw [← wd.len]; simp
    · rw [if_neg hz] at q; exact q.elim
end
end Zm
set_option Elab.async false
set_option linter.all false
set_option maxRecDepth 100000
set_option autoImplicit false
/-! Z2: tests, chains, conditional values; statements. -/
namespace Zm
open PySem PySem.Spec PyProof.Rows L2
abbrev T := Env → Sto → R Bool
section
variable {K : PySem.W.Frag} {mg : Str → Option Value} {H : Hp} {ρ : List Addr} {x y z : D} {vs : List V} {A F : Cnt}
theorem Reps.inv0 (h : Reps K mg H ρ [] vs A F) : vs = [] ∧ ∀ p, A p = 0 ∧ F p = 0 := by
  cases h with
  | nil a f => exact ⟨rfl, fun p => ⟨a p, f p⟩⟩
theorem Reps.inv1 (h : Reps K mg H ρ [x] vs A F) : ∃ vx, vs = [vx] ∧ Rep K mg H ρ x vx A F := by
  cases h with
  | cons h t e1 e2 =>
    obtain ⟨rfl, z⟩ := Reps.inv0 t
    exact ⟨_, rfl, h.cong (fun p => by rw [e1, (z p).1]; rfl) (fun p => by rw [e2, (z p).2]; rfl)⟩
theorem Reps.inv2 (h : Reps K mg H ρ [x, y] vs A F) : ∃ vx vy ax fx ay fy, vs = [vx, vy] ∧ Rep K mg H ρ x vx ax fx ∧ Rep K mg H ρ y vy ay fy ∧ ∀ p, A p = ax p + ay p ∧ F p = fx p + fy p := by
  cases h with
  | cons h t e1 e2 =>
    obtain ⟨vy, rfl, r⟩ := Reps.inv1 t
    exact ⟨_, vy, _, _, _, _, rfl, h, r, fun p => ⟨e1 p, e2 p⟩⟩
theorem Reps.inv3 (h : Reps K mg H ρ [x, y, z] vs A F) : ∃ vx vy vz ax fx ay fy az fz, vs = [vx, vy, vz] ∧ Rep K mg H ρ x vx ax fx ∧ Rep K mg H ρ y vy ay fy ∧ Rep K mg H ρ z vz az fz ∧ ∀ p, A p = ax p + (ay p + az p) ∧ F p = fx p + (fy p + fz p) := by
  cases h with
  | cons h t e1 e2 =>
    obtain ⟨vy, vz, ay, fy, az, fz, rfl, r1, r2, q⟩ := Reps.inv2 t
    exact ⟨_, vy, vz, _, _, ay, fy, az, fz, rfl, h, r1, r2, fun p => ⟨by rw [e1, (q p).1], by rw [e2, (q p).2]⟩⟩
end
section
variable {K : PySem.W.Frag} {mg : Str → Option Value} {W : WX} {H H' H1 : Hp} {ρ ρ' ρ1 : List Addr} {σm : Env} {σ : L2.St} {s s' s1 : Sto} {d e : D} {ds es : List D} {v : V} {vs ws : List V} {A F A' F' a f Mc : Cnt}
theorem Gd.step (fr : Fr c0 H H1 ρ ρ1) (g : Gd A F H1 a f) : Gd A F H a f := fun x => by
  obtain ⟨p, q, r⟩ := g x
  exact ⟨p, fun h => ⟨(q h).1, fr.there x (q h).2⟩, fun h => (r h).elim .inl fun z => z.elim (fun z => .inr (.inl z)) fun z => .inr (.inr (fr.there x z))⟩
theorem oE.step {Q : VK} {r : R D} (fr : Fr c0 H H1 ρ ρ1) (h : oE K mg W σ A F H ρ Q r) : oE K mg W σ A F H1 ρ1 Q r := by
  cases r with
  | bad => exact h
  | ex x s => exact fun cls dd H' ρ' fr' => h cls dd H' ρ' (fr.tr fr')
  | ok d s => exact fun v H' ρ' a f fr' wd rp g => h v H' ρ' a f (fr.tr fr') wd rp (g.step fr)
section
variable (K : PySem.W.Frag) (mg : Str → Option Value) (W : WX) (σ : L2.St) (A F : Cnt) (H : Hp) (ρ : List Addr)
def oT (Q : Bool → Hp → Prop) : R Bool → Prop
  | .ok b s' => ∀ H' ρ', Fr c0 H H' ρ ρ' → Wd K mg ρ' s' H' → Q b H'
  | .ex x s' => ∀ cls dd H' ρ', Fr c0 H H' ρ ρ' → Wd K mg ρ' s' H' → RepX mg H' x cls dd → W cls dd σ H'
  | .bad => False
end
theorem oT.step {Q : Bool → Hp → Prop} {r : R Bool} (fr : Fr c0 H H1 ρ ρ1) (h : oT K mg W σ H ρ Q r) : oT K mg W σ H1 ρ1 Q r := by
  cases r with
  | bad => exact h
  | ex x s => exact fun cls dd H' ρ' fr' => h cls dd H' ρ' (fr.tr fr')
  | ok d s => exact fun H' ρ' fr' => h H' ρ' (fr.tr fr')
variable (K mg W) in
def rT (t : T) : TT := fun σ H Q => ∃ σm s ρ A F, Rel K mg σm s σ H ρ A F ∧ oT K mg W σ H ρ Q (t σm s)
end
def ST (X : Cx) (W : WX) (e : Expr) (t : T) : Prop := PT X e (rT X.K X.mg W t)
def SW (X : Cx) (W : WX) (e : Expr) (t : T) : Prop := PW X e (rT X.K X.mg W t)
theorem PW.imp {X : Cx} {e : Expr} {t t' : TT} (h : PW X e t) (q : ∀ σ H Q, t' σ H Q → t σ H Q) : PW X e t' := ⟨fun wh pins s σ H Q I w => h.run wh pins s σ H Q I (q σ H Q w)⟩
def mArgs1 (m : M) : Env → Sto → R (List D) := mArgs [m]
@[simp] def tV (m : M) : T := fun σ s => (m σ s).bind fun d s' => match d with
  | .bl b => .ok b s'
  | _ => .bad
@[simp] def tAnd (t u : T) : T := fun σ s => (t σ s).bind fun b s' => if b = true then u σ s' else .ok false s'
@[simp] def tOr (t u : T) : T := fun σ s => (t σ s).bind fun b s' => if b = true then .ok true s' else u σ s'
@[simp] def tNot (t : T) : T := fun σ s => (t σ s).bind fun b s' => .ok (!b) s'
@[simp] def mIfE (t : T) (a b : M) : M := fun σ s => (t σ s).bind fun c s' => if c = true then a σ s' else b σ s'
@[simp] def mAnd (a b : M) : M := fun σ s => (a σ s).bind fun d s' => match d with
  | .bl true => b σ s'
  | .bl false => .ok (.bl false) s'
  | _ => .bad
@[simp] def mOr (a b : M) : M := fun σ s => (a σ s).bind fun d s' => match d with
  | .bl true => .ok (.bl true) s'
  | .bl false => b σ s'
  | _ => .bad
@[simp] def mNot (a : M) : M := fun σ s => (a σ s).bind fun d s' => match d with
  | .bl b => .ok (.bl (!b)) s'
  | _ => .bad
/-- a op b op' c: b reckoned once -/
def mChain (g g' : Sto → List D → Option D) (a b c : M) : M := fun σ s => (mArgs [a, b] σ s).bind fun ds s' => match ds with
  | [x, y] => (R.of (g s' [x, y]) s').bind fun z s2 => match z with
    | .bl true => (c σ s2).bind fun w s3 => R.of (g' s3 [y, w]) s3
    | .bl false => .ok (.bl false) s2
    | _ => .bad
  | _ => .bad
section
variable {K : PySem.W.Frag} {mg : Str → Option Value} {W : WX} {σ : L2.St} {H : Hp} {m a b c : M} {t u : T}
theorem rT_val {Q : Bool → Hp → Prop} (h : rT K mg W (tV m) σ H Q) : rE K mg W m σ H fun x H1 => ∃ k, x = .bl k ∧ Q k H1 := by
  obtain ⟨σm, s, ρ, A, F, rel, h⟩ := h
  refine ⟨σm, s, ρ, A, F, rel, ?_⟩
  unfold tV at h
  cases e : m σm s with
  | bad => rw [e] at h; exact h
  | ex x s1 => rw [e] at h; exact h
  | ok d s1 =>
    rw [e, Zm.R.bind_ok] at h
    intro v H1 ρ1 a f fr wd rp g
    cases d <;> first | exact (h.elim) | skip
    cases rp
    exact ⟨_, rfl, h H1 ρ1 fr wd⟩
theorem rT_and {Q : Bool → Hp → Prop} (h : rT K mg W (tAnd t u) σ H Q) : rT K mg W t σ H fun c H1 => if c = true then rT K mg W u σ H1 Q else Q false H1 := by
  obtain ⟨σm, s, ρ, A, F, rel, h⟩ := h
  refine ⟨σm, s, ρ, A, F, rel, ?_⟩
  unfold Zm.tAnd at h
  cases e : t σm s with
  | bad => rw [e] at h; exact h
  | ex x s1 => rw [e] at h; exact h
  | ok d s1 =>
    rw [e, Zm.R.bind_ok] at h
    intro H1 ρ1 fr wd
    cases d with
    | true => exact iteT ⟨σm, s1, ρ1, A, F, rel.next fr wd, oT.step fr (by simpa using h)⟩
    | false => exact iteF ((show oT K mg W σ H ρ Q (.ok false s1) by simpa using h) H1 ρ1 fr wd)
theorem rT_or {Q : Bool → Hp → Prop} (h : rT K mg W (tOr t u) σ H Q) : rT K mg W t σ H fun c H1 => if c = true then Q true H1 else rT K mg W u σ H1 Q := by
  obtain ⟨σm, s, ρ, A, F, rel, h⟩ := h
  refine ⟨σm, s, ρ, A, F, rel, ?_⟩
  unfold Zm.tOr at h
  cases e : t σm s with
  | bad => rw [e] at h; exact h
  | ex x s1 => rw [e] at h; exact h
  | ok d s1 =>
    rw [e, Zm.R.bind_ok] at h
    intro H1 ρ1 fr wd
    cases d with
    | true => exact iteT ((show oT K mg W σ H ρ Q (.ok true s1) by simpa using h) H1 ρ1 fr wd)
    | false => exact iteF ⟨σm, s1, ρ1, A, F, rel.next fr wd, oT.step fr (by simpa using h)⟩
theorem rT_not {Q : Bool → Hp → Prop} (h : rT K mg W (tNot t) σ H Q) : rT K mg W t σ H fun c H1 => Q (!c) H1 := by
  obtain ⟨σm, s, ρ, A, F, rel, h⟩ := h
  refine ⟨σm, s, ρ, A, F, rel, ?_⟩
  unfold Zm.tNot at h
  cases e : t σm s with
  | bad => rw [e] at h; exact h
  | ex x s1 => rw [e] at h; exact h
  | ok d s1 => rw [e, Zm.R.bind_ok] at h; exact h
theorem rE_if {Q : VK} (h : rE K mg W (mIfE t a b) σ H Q) : rT K mg W t σ H fun c H1 => if c = true then rE K mg W a σ H1 Q else rE K mg W b σ H1 Q := by
  obtain ⟨σm, s, ρ, A, F, rel, h⟩ := h
  refine ⟨σm, s, ρ, A, F, rel, ?_⟩
  unfold mIfE at h
  cases e : t σm s with
  | bad => rw [e] at h; exact h
  | ex x s1 => rw [e] at h; exact h
  | ok d s1 =>
    rw [e, Zm.R.bind_ok] at h
    intro H1 ρ1 fr wd
    cases d with
    | true => exact iteT ⟨σm, s1, ρ1, A, F, rel.next fr wd, oE.step fr (by simpa using h)⟩
    | false => exact iteF ⟨σm, s1, ρ1, A, F, rel.next fr wd, oE.step fr (by simpa using h)⟩
theorem rE_and {Q : VK} (h : rE K mg W (mAnd a b) σ H Q) : rE K mg W a σ H fun x H1 => ∃ c, x = .bl c ∧ if c = true then rE K mg W b σ H1 Q else Q (.bl false) H1 := by
  obtain ⟨σm, s, ρ, A, F, rel, h⟩ := h
  refine ⟨σm, s, ρ, A, F, rel, ?_⟩
  unfold mAnd at h
  cases e : a σm s with
  | bad => rw [e] at h; exact h
  | ex x s1 => rw [e] at h; exact h
  | ok d s1 =>
    rw [e, Zm.R.bind_ok] at h
    intro v H1 ρ1 a f fr wd rp g
    cases d <;> first | exact (h.elim) | skip
    rename_i c
    cases rp
    cases c with
    | true => exact ⟨true, rfl, iteT ⟨σm, s1, ρ1, A, F, rel.next fr wd, oE.step fr h⟩⟩
    | false => exact ⟨false, rfl, iteF (h (.bl false) H1 ρ1 c0 c0 fr wd (.bl (fun _ => rfl) (fun _ => rfl)) (.zero (fun _ => rfl) (fun _ => rfl)))⟩
theorem rE_or {Q : VK} (h : rE K mg W (mOr a b) σ H Q) : rE K mg W a σ H fun x H1 => ∃ c, x = .bl c ∧ if c = true then Q (.bl true) H1 else rE K mg W b σ H1 Q := by
  obtain ⟨σm, s, ρ, A, F, rel, h⟩ := h
  refine ⟨σm, s, ρ, A, F, rel, ?_⟩
  unfold mOr at h
  cases e : a σm s with
  | bad => rw [e] at h; exact h
  | ex x s1 => rw [e] at h; exact h
  | ok d s1 =>
    rw [e, Zm.R.bind_ok] at h
    intro v H1 ρ1 a f fr wd rp g
    cases d <;> first | exact (h.elim) | skip
    rename_i c
    cases rp
    cases c with
    | false => exact ⟨false, rfl, iteF ⟨σm, s1, ρ1, A, F, rel.next fr wd, oE.step fr h⟩⟩
    | true => exact ⟨true, rfl, iteT (h (.bl true) H1 ρ1 c0 c0 fr wd (.bl (fun _ => rfl) (fun _ => rfl)) (.zero (fun _ => rfl) (fun _ => rfl)))⟩
theorem rE_not {Q : VK} (h : rE K mg W (mNot a) σ H Q) : rE K mg W a σ H fun x H1 => ∃ c, x = .bl c ∧ Q (.bl (!c)) H1 := by
  obtain ⟨σm, s, ρ, A, F, rel, h⟩ := h
  refine ⟨σm, s, ρ, A, F, rel, ?_⟩
  unfold mNot at h
  cases e : a σm s with
  | bad => rw [e] at h; exact h
  | ex x s1 => rw [e] at h; exact h
  | ok d s1 =>
    rw [e, Zm.R.bind_ok] at h
    intro v H1 ρ1 a f fr wd rp g
    cases d <;> first | exact (h.elim) | skip
    rename_i c
    cases rp
    exact ⟨c, rfl, h (.bl (!c)) H1 ρ1 c0 c0 fr wd (.bl (fun _ => rfl) (fun _ => rfl)) (.zero (fun _ => rfl) (fun _ => rfl))⟩
/-- two of a chain: r on x y, then r' on y and c's -/
theorem rE_chain {r r' : R2} {g g' : Sto → List D → Option D} (hv : OpV K mg (r2 r) g) (hv' : OpV K mg (r2 r') g') {Q : VK} (h : rE K mg W (mChain g g' a b c) σ H Q) :
    rA K mg W (mArgs [a, b]) σ H fun vs H2 => ∃ x y, vs = [x, y] ∧ r x y H2 fun z H3 => ∃ k, z = .bl k ∧ (if k = true then rE K mg W c σ H3 fun w' H4 => r' y w' H4 Q else Q (.bl false) H3) := by
  obtain ⟨σm, s, ρ, A, F, rel, h⟩ := h
  refine ⟨σm, s, ρ, A, F, rel, ?_⟩
  unfold mChain at h
  cases e : mArgs [a, b] σm s with
  | bad => rw [e] at h; exact h
  | ex x s1 => rw [e] at h; exact h
  | ok ds s1 =>
    rw [e, Zm.R.bind_ok] at h
    intro vs H1 ρ1 a1 f1 fr wd rp gd
    match ds, rp, h with
    | [x, y], rp, h =>
      have rpp := rp
      obtain ⟨vx, vy, ax, fx, ay, fy, ev, rx, ry, e12⟩ := rp.inv2
      subst ev
      refine ⟨_, _, rfl, ?_⟩
      cases eg : g s1 [x, y] with
      | none => simp only [eg, R.of_none, R.bind_bad] at h; exact h.elim
      | some z =>
        simp only [eg, R.of_some, R.bind_ok] at h
        obtain ⟨x', y', ex, q⟩ := hv ρ1 s1 H1 _ _ a1 f1 z wd rpp gd.sp eg (fun z H3 => ∃ k, z = .bl k ∧ (if k = true then rE K mg W c σ H3 fun w' H4 => r' vy w' H4 Q else Q (.bl false) H3)) fun v H2 a' f' sm rz ou => by
          have fr2 : Fr c0 H H2 ρ ρ1 := fr.tr (Fr.of_same sm)
          cases z <;> first | exact (h.elim) | skip
          rename_i k
          cases rz
          refine ⟨k, rfl, ?_⟩
          cases k with
          | false => exact iteF (h (.bl false) H2 ρ1 c0 c0 fr2 (wd.same sm) (.bl (fun _ => rfl) (fun _ => rfl)) (.zero (fun _ => rfl) (fun _ => rfl)))
          | true =>
            refine iteT ⟨σm, s1, ρ1, A, F, rel.next fr2 (wd.same sm), ?_⟩
            cases ec : c σm s1 with
            | bad => simp only [ec, R.bind_bad] at h; exact h
            | ex x s2 => simp only [ec, R.bind_ex] at h; exact oE.step fr2 h
            | ok w s2 =>
              simp only [ec, R.bind_ok] at h
              intro vw H3 ρ3 a3 f3 fr3 wd3 rw3 g3
              cases eg' : g' s2 [y, w] with
              | none => simp only [eg', R.of_none] at h; exact h.elim
              | some zz =>
                simp only [eg', R.of_some] at h
                have ry3 : Rep K mg H3 ρ3 y vy ay fy := (ry.sm sm).on fr3
                -- the counts of y and w together
                have gy : Gd A F H ay fy := fun p => by
                  obtain ⟨g1, g2, g3⟩ := gd p
                  have q1 := e12 p
                  have i1 : ay p ≤ a1 p := by omega
                  have i2 : fy p ≤ f1 p := by omega
                  exact ⟨by omega, fun z => ⟨by have := (g2 (by omega)).1; omega, (g2 (by omega)).2⟩, fun z => g3 (by omega)⟩
                have g3' : Gd A F H a3 f3 := Gd.step fr2 g3
                have gg : Gd A F H (fun p => ay p + (a3 p + 0)) (fun p => fy p + (f3 p + 0)) := fun p => by
                  obtain ⟨p1, p2, p3⟩ := gy p
                  obtain ⟨q1, q2, q3⟩ := g3 p
                  have th := (ry.sm sm).there p
                  have ev := rel.env.there p
                  have n1 : H2 p = none → H p = none := fr2.there p
                  dsimp only
                  by_cases ha : 1 ≤ ay p
                  · obtain ⟨⟨o, ho⟩, _⟩ := th (by omega)
                    have z2 : a3 p = 0 := by
                      cases q : a3 p with
                      | zero => rfl
                      | succ k => have := (q2 (by omega)).2; rw [ho] at this; cases this
                    have z3 : f3 p = 0 := by
                      cases q : f3 p with
                      | zero => rfl
                      | succ k =>
                        have hn := (p2 ha).2
                        rcases q3 (by omega) with z | z | z
                        · obtain ⟨⟨o', ho'⟩, _⟩ := ev (by omega); rw [hn] at ho'; cases ho'
                        · obtain ⟨⟨o', ho'⟩, _⟩ := ev (by omega); rw [hn] at ho'; cases ho'
                        · rw [ho] at z; cases z
                    have := p2 ha
                    exact ⟨by omega, fun _ => ⟨by omega, this.2⟩, fun h => by omega⟩
                  · refine ⟨by omega, fun h => ?_, fun h => ?_⟩
                    · have z := q2 (by omega)
                      have zf : fy p = 0 := by
                        cases q : fy p with
                        | zero => rfl
                        | succ k => obtain ⟨⟨o, ho⟩, _⟩ := th (by omega); rw [z.2] at ho; cases ho
                      exact ⟨by omega, n1 z.2⟩
                    · by_cases z : 1 ≤ fy p
                      · exact p3 z
                      · rcases q3 (by omega) with y | y | y
                        · exact .inl y
                        · exact .inr (.inl y)
                        · exact .inr (.inr (n1 y))
                obtain ⟨x2, y2, ex2, q2⟩ := hv' ρ3 s2 H3 [y, w] [vy, vw] _ _ zz wd3 (.cons ry3 (Reps.cons rw3 (.nil (A := c0) (F := c0) (fun _ => rfl) (fun _ => rfl)) (A := fun p => a3 p + 0) (F := fun p => f3 p + 0) (fun _ => rfl) (fun _ => rfl)) (A := fun p => ay p + (a3 p + 0)) (F := fun p => fy p + (f3 p + 0)) (fun _ => rfl) (fun _ => rfl)) gg.sp eg' Q
                  fun v H4 a' f' sm4 rz4 ou4 => h v H4 ρ3 a' f' ((fr2.tr fr3).tr (Fr.of_same sm4)) (wd3.same sm4) rz4 (gg.out (fr2.tr fr3) ou4)
                cases ex2
                exact q2
        cases ex
        exact q
end
section
variable {X : Cx} {W : WX} {e : Expr} {es : List Expr} {m ma mb mc : M} {t u : T} {pos : Pos} {rest : List Expr} {a b c : Expr}
theorem st_val (h : SE X W e m) (he : ∀ whole, isTrue e X.env whole = (do let v ← whole; standAt e.pos; holding [v] (truthy v)) := by intro _; rfl) : ST X W e (tV m) := PT.imp (pt_val h he) fun σ H Q q => rT_val q
theorem st_cmp {op : CmpOp} {r : R2} {g : Sto → List D → Option D} (ho : OpR X (compareOp op) r) (hv : OpV X.K X.mg (r2 r) g) (ha : SE X W a ma) (hb : SE X W b mb) (hm : behindInMarks op b = false := by first | exact nomark _ | rfl) : ST X W (.Compare a [op] [b] pos) (tV (mOp g [ma, mb])) :=
  PT.imp (pt_cmpR ho ha hb hm) fun σ H Q h => rE_mono (rA_2 (rA_op hv (rT_val h))) fun v H1 q => rE_mono q fun u H2 ⟨x, y, e, z⟩ => by cases e; exact z
theorem sw_and1 (ha : ST X W a t) : SW X W (.BoolOp .And [a] pos) t := pw_and1 ha
theorem sw_or1 (ha : ST X W a t) : SW X W (.BoolOp .Or [a] pos) t := pw_or1 ha
theorem sw_and (ha : ST X W a t) (hb : SW X W (.BoolOp .And (b :: rest) pos) u) : SW X W (.BoolOp .And (a :: b :: rest) pos) (tAnd t u) := PW.imp (pw_and ha hb) fun σ H Q h => rT_and h
theorem sw_or (ha : ST X W a t) (hb : SW X W (.BoolOp .Or (b :: rest) pos) u) : SW X W (.BoolOp .Or (a :: b :: rest) pos) (tOr t u) := PW.imp (pw_or ha hb) fun σ H Q h => rT_or h
theorem SW.st (h : SW X W e t) : ST X W e t := PW.pt h
theorem st_not (h : ST X W a t) : ST X W (.UnaryOp .Not a pos) (tNot t) := PT.imp (pt_not h) fun σ H Q q => rT_not q
theorem s_if (hc : ST X W c t) (ha : SE X W a ma) (hb : SE X W b mb) : SE X W (.IfExp c a b pos) (mIfE t ma mb) := PE.imp (pe_ifExp hc ha hb) fun σ H Q q => rE_if q
theorem s_one {op} (h : SE X W a ma) : SE X W (.BoolOp op [a] pos) ma := pe_one h
theorem s_and (ha : SE X W a ma) (hb : SE X W (.BoolOp .And (b :: rest) pos) mb) : SE X W (.BoolOp .And (a :: b :: rest) pos) (mAnd ma mb) := PE.imp (pe_and ha hb) fun σ H Q q => rE_and q
theorem s_or (ha : SE X W a ma) (hb : SE X W (.BoolOp .Or (b :: rest) pos) mb) : SE X W (.BoolOp .Or (a :: b :: rest) pos) (mOr ma mb) := PE.imp (pe_or ha hb) fun σ H Q q => rE_or q
theorem s_not (ha : SE X W a ma) : SE X W (.UnaryOp .Not a pos) (mNot ma) := PE.imp (pe_not ha) fun σ H Q q => rE_not q
theorem s_chain {op op' : CmpOp} {r r' : R2} {g g' : Sto → List D → Option D} (ho : OpR X (compareOp op) r) (ho' : OpR X (compareOp op') r') (hv : OpV X.K X.mg (r2 r) g) (hv' : OpV X.K X.mg (r2 r') g') (ha : SE X W a ma) (hb : SE X W b mb) (hc : SE X W c mc)
    (h1 : behindInMarks op' c = false := by first | exact nomark _ | rfl) : SE X W (.Compare a [op, op'] [b, c] pos) (mChain g g' ma mb mc) :=
  PE.imp (pe_chain ho ho' ha hb hc h1) fun σ H Q h => rE_mono (rA_2 (rE_chain hv hv' h)) fun v H1 q => rE_mono q fun u H2 ⟨x, y, e, z⟩ => by cases e; exact z
theorem st_chain {op op' : CmpOp} {r r' : R2} {g g' : Sto → List D → Option D} (ho : OpR X (compareOp op) r) (ho' : OpR X (compareOp op') r') (hv : OpV X.K X.mg (r2 r) g) (hv' : OpV X.K X.mg (r2 r') g') (ha : SE X W a ma) (hb : SE X W b mb) (hc : SE X W c mc)
    (h1 : behindInMarks op' c = false := by first | exact nomark _ | rfl) : ST X W (.Compare a [op, op'] [b, c] pos) (tV (mChain g g' ma mb mc)) :=
  PT.imp (pt_chain ho ho' ha hb hc h1) fun σ H Q h => rE_mono (rA_2 (rE_chain hv hv' (rT_val h))) fun v H1 q => rE_mono q fun u H2 ⟨x, y, e, z⟩ => by cases e; exact z
end
end Zm
set_option Elab.async false
set_option linter.all false
set_option maxRecDepth 100000
set_option autoImplicit false
/-! Z3: statements. -/
namespace Zm
open PySem PySem.Spec PyProof.Rows L2
inductive RS where
  | nx (σ : Env) (s : Sto) | rt (d : D) (s : Sto) | bk (σ : Env) (s : Sto) | ct (σ : Env) (s : Sto) | ex (x : Xc) (σ : Env) (s : Sto) | bad
abbrev MS := Env → Sto → RS
def R.to {α : Type} (r : R α) (σ : Env) (k : α → Sto → RS) : RS := match r with
  | .ok a s => k a s
  | .ex x s => .ex x σ s
  | .bad => .bad
@[simp] theorem R.to_ok {α : Type} {a : α} {s : Sto} {σ : Env} {k : α → Sto → RS} : (R.ok a s).to σ k = k a s := rfl
@[simp] theorem R.to_ex {α : Type} {x : Xc} {s : Sto} {σ : Env} {k : α → Sto → RS} : (R.ex x s : R α).to σ k = .ex x σ s := rfl
@[simp] theorem R.to_bad {α : Type} {σ : Env} {k : α → Sto → RS} : (R.bad : R α).to σ k = .bad := rfl
def RS.then (r : RS) (k : Env → Sto → RS) : RS := match r with
  | .nx σ s => k σ s
  | r => r
@[simp] theorem RS.then_nx {σ : Env} {s : Sto} {k : Env → Sto → RS} : (RS.nx σ s).then k = k σ s := rfl
@[simp] theorem RS.then_rt {d : D} {s : Sto} {k : Env → Sto → RS} : (RS.rt d s).then k = .rt d s := rfl
@[simp] theorem RS.then_bk {σ : Env} {s : Sto} {k : Env → Sto → RS} : (RS.bk σ s).then k = .bk σ s := rfl
@[simp] theorem RS.then_ct {σ : Env} {s : Sto} {k : Env → Sto → RS} : (RS.ct σ s).then k = .ct σ s := rfl
@[simp] theorem RS.then_ex {x : Xc} {σ : Env} {s : Sto} {k : Env → Sto → RS} : (RS.ex x σ s).then k = .ex x σ s := rfl
@[simp] theorem RS.then_bad {k : Env → Sto → RS} : RS.bad.then k = .bad := rfl
/-- what may newly be held, as against before -/
def Nx (A F : Cnt) (H : Hp) (A' F' : Cnt) : Prop := ∀ x, (1 ≤ A' x → 1 ≤ A x ∨ H x = none) ∧ (1 ≤ F' x → 1 ≤ A x ∨ 1 ≤ F x ∨ H x = none)
section
variable {K : PySem.W.Frag} {mg : Str → Option Value} {W : WX} {H H' H1 : Hp} {ρ ρ' ρ1 : List Addr} {σm : Env} {σ : L2.St} {s s' s1 : Sto} {d e : D} {ds es : List D} {v : V} {vs ws : List V} {A F A' F' A1 F1 a f Mc : Cnt}
theorem Nx.refl : Nx A F H A F := fun x => ⟨fun h => .inl h, fun h => .inr (.inl h)⟩
theorem Nx.trans (n : Nx A F H A1 F1) (fr : Fr A H H1 ρ ρ1) (m : Nx A1 F1 H1 A' F') : Nx A F H A' F' := fun x => by
  obtain ⟨p, q⟩ := n x
  obtain ⟨r, t⟩ := m x
  refine ⟨fun h => ?_, fun h => ?_⟩
  · rcases r h with z | z
    · exact p z
    · exact .inr (fr.there x z)
  · rcases t h with z | z | z
    · rcases p z with y | y
      · exact .inl y
      · exact .inr (.inr y)
    · exact q z
    · exact .inr (.inr (fr.there x z))
theorem Fr.thenN (fr : Fr A H H1 ρ ρ1) (n : Nx A F H A1 F1) (fr2 : Fr A1 H1 H' ρ1 ρ') : Fr A H H' ρ ρ' := fr.trans fr2 fun x h => (n x).1 h
theorem Fr.up (fr : Fr c0 H H1 ρ ρ1) : Fr A H H1 ρ ρ1 := fr.mono fun _ h => no0 h
section
variable (K : PySem.W.Frag) (mg : Str → Option Value) (W : WX) (A F : Cnt) (H : Hp) (ρ : List Addr)
def oS (D : Ends) : RS → Prop
  | .nx σm' s' => ∀ σ' H' ρ' A' F', Fr A H H' ρ ρ' → Rel K mg σm' s' σ' H' ρ' A' F' → Nx A F H A' F' → D.nx σ' H'
  | .bk σm' s' => ∀ σ' H' ρ' A' F', Fr A H H' ρ ρ' → Rel K mg σm' s' σ' H' ρ' A' F' → Nx A F H A' F' → D.bk σ' H'
  | .ct σm' s' => ∀ σ' H' ρ' A' F', Fr A H H' ρ ρ' → Rel K mg σm' s' σ' H' ρ' A' F' → Nx A F H A' F' → D.ct σ' H'
  | .rt d s' => ∀ v H' ρ' a f, Fr A H H' ρ ρ' → Wd K mg ρ' s' H' → Rep K mg H' ρ' d v a f → Out A F H a f → D.rt v H'
  | .ex x σm' s' => ∀ cls dd σ' H' ρ' A' F', Fr A H H' ρ ρ' → Rel K mg σm' s' σ' H' ρ' A' F' → Nx A F H A' F' → RepX mg H' x cls dd → W cls dd σ' H'
  | .bad => False
end
variable (K mg W) in
def rS (m : MS) : TS := fun D σ H => ∃ σm s ρ A F, Rel K mg σm s σ H ρ A F ∧ oS K mg W A F H ρ D (m σm s)
theorem Out.stepN (fr : Fr A H H1 ρ ρ1) (n : Nx A F H A1 F1) (o : Out A1 F1 H1 a f) : Out A F H a f := fun x => by
  obtain ⟨p, q, r⟩ := o x
  refine ⟨p, fun h => ⟨(q h).1, ?_⟩, fun h => ?_⟩
  · rcases (q h).2 with z | z
    · exact .inl (fr.there x z)
    · exact ((n x).1 z).elim .inr .inl
  · rcases r h with z | z | z
    · exact ((n x).1 z).elim .inl fun z => .inr (.inr z)
    · exact (n x).2 z
    · exact .inr (.inr (fr.there x z))
theorem oS.step {D : Ends} {r : RS} (fr : Fr A H H1 ρ ρ1) (n : Nx A F H A1 F1) (h : oS K mg W A F H ρ D r) : oS K mg W A1 F1 H1 ρ1 D r := by
  cases r with
  | bad => exact h
  | nx σ s => exact fun σ' H' ρ' A' F' fr' r' n' => h σ' H' ρ' A' F' (fr.thenN n fr') r' (n.trans fr n')
  | bk σ s => exact fun σ' H' ρ' A' F' fr' r' n' => h σ' H' ρ' A' F' (fr.thenN n fr') r' (n.trans fr n')
  | ct σ s => exact fun σ' H' ρ' A' F' fr' r' n' => h σ' H' ρ' A' F' (fr.thenN n fr') r' (n.trans fr n')
  | rt d s => exact fun v H' ρ' a f fr' wd rp o => h v H' ρ' a f (fr.thenN n fr') wd rp (o.stepN fr n)
  | ex x σ s => exact fun cls dd σ' H' ρ' A' F' fr' r' n' => h cls dd σ' H' ρ' A' F' (fr.thenN n fr') r' (n.trans fr n')
theorem oS.imp {D D' : Ends} {r : RS} (h : oS K mg W A F H ρ D r) (h1 : ∀ σ H, D.nx σ H → D'.nx σ H) (h2 : ∀ v H, D.rt v H → D'.rt v H) (h3 : ∀ σ H, D.bk σ H → D'.bk σ H) (h4 : ∀ σ H, D.ct σ H → D'.ct σ H) : oS K mg W A F H ρ D' r := by
  cases r with
  | bad => exact h
  | nx σ s => exact fun σ' H' ρ' A' F' a b c => h1 _ _ (h σ' H' ρ' A' F' a b c)
  | bk σ s => exact fun σ' H' ρ' A' F' a b c => h3 _ _ (h σ' H' ρ' A' F' a b c)
  | ct σ s => exact fun σ' H' ρ' A' F' a b c => h4 _ _ (h σ' H' ρ' A' F' a b c)
  | rt d s => exact fun v H' ρ' a f b c d e => h2 _ _ (h v H' ρ' a f b c d e)
  | ex x σ s => exact h
end
end Zm
namespace Zm
open PySem PySem.Spec PyProof.Rows L2
def SS (X : Cx) (W : WX) (e : Stmt) (m : MS) : Prop := PS X e (rS X.K X.mg W m)
def SSs (X : Cx) (W : WX) (e : List Stmt) (m : MS) : Prop := PSs X e (rS X.K X.mg W m)
@[simp] def mNil : MS := fun σ s => .nx σ s
@[simp] def mSeq (a b : MS) : MS := fun σ s => (a σ s).then b
def mSet (i : Nat) (m : M) : MS := fun σ s => (m σ s).to σ fun d s' => if noF d = true ∧ i < σ.length then .nx (σ.set i (some d)) s' else .bad
/-- a mask's slots alone; its slots frozen -/
@[simp] def restr : List Bool → Env → Env
  | [], σ => σ.map fun _ => none
  | _, [] => []
  | b :: bs, o :: σ => (if b = true then o else none) :: restr bs σ
@[simp] def frzE : List Bool → Env → Env
  | [], σ => σ
  | _, [] => []
  | b :: bs, o :: σ => (if b = true then o.map fz else o) :: frzE bs σ
def mSetF (msk : List Bool) (i : Nat) (m : M) : MS := fun σ s => (m (restr msk σ) s).to σ fun d s' => if i < σ.length then .nx ((frzE msk σ).set i (some (fz d))) s' else .bad
@[simp] def mIf (t : T) (a b : MS) : MS := fun σ s => (t σ s).to σ fun c s' => if c = true then a σ s' else b σ s'
@[simp] def mRet (m : M) : MS := fun σ s => (m σ s).to σ fun d s' => .rt d s'
@[simp] def mRetN : MS := fun _ s => .rt .non s
def mRetV (i : Nat) : MS := fun σ s => match σ[i]? with
  | some (some d) => .rt d s
  | _ => .bad
@[simp] def mDo (m : M) : MS := fun σ s => (m σ s).to σ fun _ s' => .nx σ s'
@[simp] def mBreak : MS := fun σ s => .bk σ s
@[simp] def mCont : MS := fun σ s => .ct σ s
def mApp (i : Nat) (m : M) : MS := fun σ s => match σ[i]? with
  | some (some (.lst true xs)) => (m σ s).to σ fun d s' => if xs.length < sizeLine ∧ noF d = true then .nx (σ.set i (some (.lst true (xs ++ [d])))) s' else .bad
  | _ => .bad
def mAppF (msk : List Bool) (i : Nat) (m : M) : MS := fun σ s => match (frzE msk σ)[i]? with
  | some (some (.lst true xs)) => (m (restr msk σ) s).to σ fun d s' => if xs.length < sizeLine then .nx ((frzE msk σ).set i (some (.lst true (xs ++ [fz d])))) s' else .bad
  | _ => .bad
section
variable {K : PySem.W.Frag} {mg : Str → Option Value} {W : WX} {H H' H1 : Hp} {ρ ρ' ρ1 : List Addr} {σm : Env} {σ : L2.St} {s s' s1 : Sto} {d e : D} {v : V} {A F A' F' A1 F1 a f Mc : Cnt}
theorem restr_length : ∀ {msk : List Bool} {σ : Env}, (restr msk σ).length = σ.length
  | [], σ => by simp [restr]
  | _ :: _, [] => by simp [restr]
  | b :: bs, o :: σ => by simp [restr, restr_length (msk := bs) (σ := σ)]
theorem frzE_length : ∀ {msk : List Bool} {σ : Env}, (frzE msk σ).length = σ.length
  | [], σ => by simp [frzE]
  | _ :: _, [] => by simp [frzE]
  | b :: bs, o :: σ => by simp [frzE, frzE_length (msk := bs) (σ := σ)]
/-- the slots in two parts: those of the mask may be frozen -/
theorem EnvR.none_of : ∀ {σm : Env} {σ : L2.St} {A F : Cnt}, EnvR K mg H ρ σm σ A F → EnvR K mg H ρ (σm.map fun _ => none) σ c0 c0
  | _, _, _, _, .nil _ _ => .nil (fun _ => rfl) (fun _ => rfl)
  | _, _, _, _, .no t => .no (EnvR.none_of t)
  | _, _, _, _, .yes _ t _ _ => .no (EnvR.none_of t)
theorem EnvR.mask : ∀ {msk : List Bool} {σm : Env} {σ : L2.St} {A F : Cnt}, EnvR K mg H ρ σm σ A F →
    ∃ Am Fm Ar F2, EnvR K mg H ρ (restr msk σm) σ Am Fm ∧ EnvR K mg H ρ (frzE msk σm) σ Ar F2 ∧ ∀ x, A x = Am x + Ar x ∧ Fm x ≤ F x ∧ (1 ≤ F2 x → 1 ≤ F x ∨ 1 ≤ Am x)
  | [], σm, σ, A, F, h => by
    refine ⟨c0, c0, A, F, ?_, by rw [frzE]; exact h, fun x => ⟨by simp [c0], by simp [c0], fun z => .inl z⟩⟩
    rw [restr]; exact h.none_of
  | b :: bs, _, _, A, F, .nil a f => ⟨A, F, c0, c0, .nil a f, .nil (fun _ => rfl) (fun _ => rfl), fun x => ⟨by simp [c0], Nat.le_refl _, fun z => no0 z⟩⟩
  | b :: bs, _, _, _, _, .no t => by
    obtain ⟨Am, Fm, Ar, F2, r1, r2, q⟩ := EnvR.mask (msk := bs) t
    refine ⟨Am, Fm, Ar, F2, ?_, ?_, q⟩
    · rw [restr]; split <;> exact .no r1
    · rw [frzE]; split <;> exact .no r2
  | true :: bs, _, _, _, _, .yes (a := a) (f := f) h t e1 e2 => by
    obtain ⟨Am, Fm, Ar, F2, r1, r2, q⟩ := EnvR.mask (msk := bs) t
    obtain ⟨f', h', q'⟩ := h.fz
    refine ⟨_, _, Ar, _, .yes h r1 (fun _ => rfl) (fun _ => rfl), .yes h' r2 (fun x => by show Ar x = c0 x + Ar x; simp [c0]) (fun _ => rfl), fun x => ?_⟩
    have z := q x
    have z' := q' x
    rw [e1, e2]
    refine ⟨by omega, by omega, fun y => ?_⟩
    have y : 1 ≤ f' x + F2 x := y
    by_cases w : 1 ≤ f' x
    · have := z' w; omega
    · have := z.2.2 (by omega); omega
  | false :: bs, _, _, _, _, .yes (a := a) (f := f) h t e1 e2 => by
    obtain ⟨Am, Fm, Ar, F2, r1, r2, q⟩ := EnvR.mask (msk := bs) t
    refine ⟨Am, Fm, _, _, .no r1, .yes h r2 (fun _ => rfl) (fun _ => rfl), fun x => ?_⟩
    have z := q x
    rw [e1, e2]
    refine ⟨by omega, by omega, fun y => ?_⟩
    have y : 1 ≤ f x + F2 x := y
    by_cases w : 1 ≤ f x
    · omega
    · have := z.2.2 (by omega); omega
/-- a slot stored with what is not frozen -/
theorem Rel.set (rel : Rel K mg σm s σ H ρ A F) (fr : Fr c0 H H1 ρ ρ1) (wd : Wd K mg ρ1 s1 H1) (rp : Rep K mg H1 ρ1 d v a f) (g : Gd A F H a f) (hf : ∀ x, f x = 0) (i : Nat) (hi : i < σm.length) :
    ∃ A' F', Rel K mg (σm.set i (some d)) s1 (σ.set i (some v)) H1 ρ1 A' F' ∧ Nx A F H A' F' := by
  have r1 := rel.next fr wd
  obtain ⟨A', F', e', le, _⟩ := r1.env.set i rp hi
  have ev := rel.env.there
  refine ⟨A', F', ⟨e', wd, fun x => ?_⟩, fun x => ?_⟩
  · have := le x
    have s0 := rel.sep x
    obtain ⟨g1, g2, g3⟩ := g x
    have h0 := hf x
    by_cases z : 1 ≤ a x
    · have hn := (g2 z).2
      have q : ¬ 1 ≤ A x + F x := fun y => by obtain ⟨⟨o, ho⟩, _⟩ := ev x y; rw [hn] at ho; cases ho
      omega
    · refine ⟨by omega, fun y => ?_⟩
      have := s0.2 (by omega)
      omega
  · have := le x
    have h0 := hf x
    obtain ⟨g1, g2, g3⟩ := g x
    refine ⟨fun y => ?_, fun y => by omega⟩
    by_cases z : 1 ≤ a x
    · exact .inr (g2 z).2
    · exact .inl (by omega)
/-- a slot stored with what may be frozen, the mask's slots frozen -/
theorem Rel.setF {msk : List Bool} {Am Fm Ar F2 : Cnt} (rel : Rel K mg σm s σ H ρ A F) (r2 : EnvR K mg H ρ (frzE msk σm) σ Ar F2) (q : ∀ x, A x = Am x + Ar x ∧ Fm x ≤ F x ∧ (1 ≤ F2 x → 1 ≤ F x ∨ 1 ≤ Am x))
    (fr : Fr c0 H H1 ρ ρ1) (wd : Wd K mg ρ1 s1 H1) (rp : Rep K mg H1 ρ1 d v a f) (g : Gd Am Fm H a f) (i : Nat) (hi : i < σm.length) :
    ∃ A' F', Rel K mg ((frzE msk σm).set i (some (fz d))) s1 (σ.set i (some v)) H1 ρ1 A' F' ∧ Nx A F H A' F' := by
  obtain ⟨f', rp', qf⟩ := rp.fz
  have e1 := r2.frame fr fun _ hx => no0 hx
  obtain ⟨A', F', e', le, _⟩ := e1.set i rp' (by rw [frzE_length]; exact hi)
  have ev := rel.env.there
  have key : ∀ x, 1 ≤ f' x → 1 ≤ Am x ∨ 1 ≤ Fm x ∨ H x = none := fun x h => by
    have := qf x h
    obtain ⟨g1, g2, g3⟩ := g x
    by_cases z : 1 ≤ a x
    · exact .inr (.inr (g2 z).2)
    · exact g3 (by omega)
  refine ⟨A', F', ⟨e', wd, fun x => ?_⟩, fun x => ?_⟩
  · have l := le x
    have l1 : A' x ≤ Ar x + 0 := l.1
    have l2 := l.2
    have s0 := rel.sep x
    have q0 := q x
    refine ⟨by omega, fun y => ?_⟩
    have hA : 1 ≤ A x := by omega
    have hF := s0.2 hA
    obtain ⟨⟨o, ho⟩, _⟩ := ev x (by omega)
    have h1 : F2 x = 0 := by
      cases z : F2 x with
      | zero => rfl
      | succ k => have := q0.2.2 (by omega); omega
    have h2 : f' x = 0 := by
      cases z : f' x with
      | zero => rfl
      | succ k =>
        rcases key x (by omega) with w | w | w
        · omega
        · omega
        · rw [w] at ho; cases ho
    omega
  · have l := le x
    have l1 : A' x ≤ Ar x + 0 := l.1
    have q0 := q x
    refine ⟨fun y => .inl (by omega), fun y => ?_⟩
    by_cases z : 1 ≤ f' x
    · rcases key x z with w | w | w
      · exact .inl (by omega)
      · exact .inr (.inl (by omega))
      · exact .inr (.inr w)
    · have := q0.2.2 (by omega)
      omega
theorem Rel.mask {msk : List Bool} (rel : Rel K mg σm s σ H ρ A F) : ∃ Am Fm Ar F2, Rel K mg (restr msk σm) s σ H ρ Am Fm ∧ EnvR K mg H ρ (frzE msk σm) σ Ar F2 ∧ ∀ x, A x = Am x + Ar x ∧ Fm x ≤ F x ∧ (1 ≤ F2 x → 1 ≤ F x ∨ 1 ≤ Am x) := by
  obtain ⟨Am, Fm, Ar, F2, r1, r2, q⟩ := EnvR.mask (msk := msk) rel.env
  exact ⟨Am, Fm, Ar, F2, ⟨r1, rel.wd, fun x => by have := rel.sep x; have := q x; exact ⟨by omega, fun z => by have := (rel.sep x).2 (by omega); omega⟩⟩, r2, q⟩
theorem EnvR.take : ∀ {σm : Env} {σ : L2.St} {A F : Cnt} {i : Nat} {d : D}, EnvR K mg H ρ σm σ A F → σm[i]? = some (some d) →
    ∃ v a f A2 F2, σ[i]? = some (some v) ∧ Rep K mg H ρ d v a f ∧ EnvR K mg H ρ (σm.set i none) σ A2 F2 ∧ ∀ x, A x = a x + A2 x ∧ F x = f x + F2 x
  | _, _, _, _, i, _, .nil _ _, e => by simp at e
  | _, _, _, _, 0, _, .no _, e => by simp at e
  | _, _, _, _, i + 1, _, .no t, e => by
    obtain ⟨v, a, f, A2, F2, q1, q2, q3, q4⟩ := EnvR.take t (i := i) (by simpa using e)
    exact ⟨v, a, f, A2, F2, by simpa using q1, q2, .no q3, q4⟩
  | _, _, _, _, 0, _, .yes h t e1 e2, e => by
    simp at e; subst e
    exact ⟨_, _, _, _, _, rfl, h, .no t, fun x => ⟨e1 x, e2 x⟩⟩
  | _, _, _, _, i + 1, _, .yes h t e1 e2, e => by
    obtain ⟨v, a, f, A2, F2, q1, q2, q3, q4⟩ := EnvR.take t (i := i) (by simpa using e)
    exact ⟨v, a, f, _, _, by simpa using q1, q2, .yes h q3 (fun _ => rfl) (fun _ => rfl), fun x => by have := q4 x; rw [e1, e2]; omega⟩
theorem EnvR.put : ∀ {σm : Env} {σ : L2.St} {A F : Cnt} {i : Nat} {d : D} {v : V} {a f : Cnt}, EnvR K mg H ρ σm σ A F → σm[i]? = some none → σ[i]? = some (some v) → Rep K mg H ρ d v a f →
    EnvR K mg H ρ (σm.set i (some d)) σ (fun x => a x + A x) (fun x => f x + F x)
  | _, _, _, _, i, _, _, _, _, .nil _ _, e, _, _ => by simp at e
  | _, _, _, _, 0, _, _, _, _, .no t, _, e, r => by
    simp at e; subst e
    exact .yes r t (fun _ => rfl) (fun _ => rfl)
  | _, _, _, _, i + 1, _, _, _, _, .no t, e1, e2, r => .no (EnvR.put t (by simpa using e1) (by simpa using e2) r)
  | _, _, _, _, 0, _, _, _, _, .yes h t _ _, e, _, _ => by simp at e
  | _, _, _, _, i + 1, _, _, _, _, .yes h t e1 e2, q1, q2, r => .yes h (EnvR.put t (by simpa using q1) (by simpa using q2) r) (fun x => by rw [e1]; omega) (fun x => by rw [e2]; omega)
/-- an owned list at a slot, to be written -/
theorem Rel.wr (rel : Rel K mg σm s σ H ρ A F) {i : Nat} {xs : List D} (hi : σm[i]? = some (some (.lst true xs))) :
    ∃ (p : Addr) (vs : List V) (a1 f1 A2 F2 : Cnt), σ[i]? = some (some (.ref p)) ∧ H p = some (.lst vs) ∧ Reps K mg H ρ xs vs a1 f1 ∧ (∀ x, A x = cp p x + a1 x + A2 x ∧ F x = f1 x + F2 x) ∧
      ∀ (H1 : Hp) (ρ1 : List Addr) (s1 : Sto) (xs' : List D) (vs' : List V) (a' f' : Cnt), Fr c0 H H1 ρ ρ1 → Wd K mg ρ1 s1 H1 → Reps K mg H1 ρ1 xs' vs' a' f' → (∀ x, cp p x + a' x + A2 x ≤ 1 ∧ (1 ≤ cp p x + a' x + A2 x → f' x + F2 x = 0)) →
        H1 p = some (.lst vs) ∧ Fr A H (upd H1 p (.lst vs')) ρ ρ1 ∧ Rel K mg (σm.set i (some (.lst true xs'))) s1 σ (upd H1 p (.lst vs')) ρ1 (fun x => cp p x + a' x + A2 x) (fun x => f' x + F2 x) := by
  obtain ⟨w, a0, f0, A2, F2, e1, rp0, e2, q⟩ := rel.env.take hi
  cases rp0 with
  | own hp hn t e =>
    rename_i p vs a1
    have hil : i < σm.length := (List.getElem?_eq_some_iff.mp hi).1
    refine ⟨p, vs, a1, f0, A2, F2, e1, hp, t, fun x => by have := q x; rw [e] at this; exact this, fun H1 ρ1 s1 xs' vs' a' f' fr wd r' hs => ?_⟩
    have hAp : 1 ≤ A p := by have := (q p).1; rw [e p, cp_same] at this; omega
    have hp1 : H1 p = some (.lst vs) := by
      rcases fr.keep p _ hp with z | ⟨_, z | z⟩
      · exact z
      · exact (hn z).elim
      · exact no0 z
    have hn1 : p ∉ ρ1 := fr.nmem hp hn
    have fr1 : Fr (cp p) H1 (upd H1 p (.lst vs')) ρ1 ρ1 := by
      refine ⟨fun x o q => ?_, fun x q => ?_, [], by simp, by simp⟩
      · by_cases z : x = p
        · subst z
          rw [hp1] at q; cases q
          exact .inr ⟨⟨_, rfl⟩, .inr (by rw [cp_same]; omega)⟩
        · rw [upd_ne z]; exact .inl q
      · by_cases z : x = p
        · subst z; rw [upd_same] at q; cases q
        · rw [upd_ne z] at q; exact q
    have hs0 := hs p
    rw [cp_same] at hs0
    have out : ∀ x, 1 ≤ cp p x → (a' x = 0 ∧ f' x = 0) ∧ A2 x = 0 ∧ F2 x = 0 := fun x hx => by
      by_cases z : x = p
      · subst z
        have := hs0.2 (by omega)
        omega
      · rw [cp_ne z] at hx; omega
    refine ⟨hp1, ⟨fun x o q => ?_, fun x q => fr.there x (fr1.there x q), fr.ext⟩, ?_⟩
    · rcases fr.keep x o q with z | ⟨l, z | z⟩
      · rcases fr1.keep x o z with y | ⟨l, y | y⟩
        · exact .inl y
        · obtain ⟨r, er, nr⟩ := fr.ext
          rw [er] at y
          rcases List.mem_append.mp y with y | y
          · exact .inr ⟨l, .inl y⟩
          · rw [nr x y] at q; cases q
        · by_cases w : x = p
          · subst w; exact .inr ⟨l, .inr hAp⟩
          · rw [cp_ne w] at y; omega
      · exact .inr ⟨l, .inl z⟩
      · exact no0 z
    · have env1 := (e2.frame fr fun _ hx => no0 hx).frame fr1 fun x hx => (out x hx).2
      have new : Rep K mg (upd H1 p (.lst vs')) ρ1 (.lst true xs') (.ref p) (fun x => cp p x + a' x) f' := .own upd_same hn1 (r'.frame fr1 fun x hx => (out x hx).1) (fun _ => rfl)
      have e3 := env1.put (i := i) (by simp [hil]) e1 new
      rw [List.set_set] at e3
      refine ⟨e3, ⟨wd.len, wd.nd, fun n b ys z1 z2 => ?_⟩, hs⟩
      obtain ⟨w1, ws, a, f, w2, w3⟩ := wd.at_ n b ys z1 z2
      have nb : b ≠ p := fun z => hn1 (z ▸ List.mem_of_getElem? z1)
      have zz := w3.plain w1
      exact ⟨w1, ws, a, f, by rw [upd_ne nb]; exact w2, w3.frame fr1 fun x _ => zz x⟩
end
end Zm
set_option Elab.async false
set_option linter.all false
set_option maxRecDepth 100000
set_option autoImplicit false
/-! Z4: the rules of the plain statements. -/
namespace Zm
open PySem PySem.Spec PyProof.Rows L2
section
variable {K : PySem.W.Frag} {mg : Str → Option Value} {W : WX} {H H' H1 : Hp} {ρ ρ' ρ1 : List Addr} {σm : Env} {σ : L2.St} {s s' s1 : Sto} {d e : D} {v : V} {A F A' F' A1 F1 a f Mc : Cnt} {Ds : Ends}
theorem rE_of_to {R : VK} {m : M} {k : D → Sto → RS} (rel : Rel K mg σm s σ H ρ A F) (h : oS K mg W A F H ρ Ds ((m σm s).to σm k))
    (hk : ∀ d s1 v H1 ρ1 a f, Fr c0 H H1 ρ ρ1 → Wd K mg ρ1 s1 H1 → Rep K mg H1 ρ1 d v a f → Gd A F H a f → oS K mg W A F H ρ Ds (k d s1) → R v H1) : rE K mg W m σ H R := by
  refine ⟨σm, s, ρ, A, F, rel, ?_⟩
  cases e : m σm s with
  | bad => rw [e] at h; exact h
  | ex x s1 =>
    rw [e] at h
    exact fun cls dd H' ρ' fr wd rx => h cls dd σ H' ρ' A F fr.up (rel.next fr wd) .refl rx
  | ok d s1 =>
    rw [e] at h
    exact fun v H1 ρ1 a f fr wd rp g => hk d s1 v H1 ρ1 a f fr wd rp g h
theorem rEF_of_to {R : VK} {m : M} {k : D → Sto → RS} {msk : List Bool} (rel : Rel K mg σm s σ H ρ A F) (h : oS K mg W A F H ρ Ds ((m (restr msk σm) s).to σm k))
    (hk : ∀ d s1 v H1 ρ1 a f Am Fm Ar F2, Fr c0 H H1 ρ ρ1 → Wd K mg ρ1 s1 H1 → Rep K mg H1 ρ1 d v a f → Gd Am Fm H a f → EnvR K mg H ρ (frzE msk σm) σ Ar F2 → (∀ x, A x = Am x + Ar x ∧ Fm x ≤ F x ∧ (1 ≤ F2 x → 1 ≤ F x ∨ 1 ≤ Am x)) → oS K mg W A F H ρ Ds (k d s1) → R v H1) : rE K mg W m σ H R := by
  obtain ⟨Am, Fm, Ar, F2, r1, r2, q⟩ := rel.mask (msk := msk)
  refine ⟨_, s, ρ, Am, Fm, r1, ?_⟩
  cases e : m (restr msk σm) s with
  | bad => rw [e] at h; exact h
  | ex x s1 =>
    rw [e] at h
    exact fun cls dd H' ρ' fr wd rx => h cls dd σ H' ρ' A F fr.up (rel.next fr wd) .refl rx
  | ok d s1 =>
    rw [e] at h
    exact fun v H1 ρ1 a f fr wd rp g => hk d s1 v H1 ρ1 a f Am Fm Ar F2 fr wd rp g r2 q h
theorem rT_of_to {R : Bool → Hp → Prop} {t : T} {k : Bool → Sto → RS} (rel : Rel K mg σm s σ H ρ A F) (h : oS K mg W A F H ρ Ds ((t σm s).to σm k))
    (hk : ∀ b s1 H1 ρ1, Fr c0 H H1 ρ ρ1 → Wd K mg ρ1 s1 H1 → oS K mg W A F H ρ Ds (k b s1) → R b H1) : rT K mg W t σ H R := by
  refine ⟨σm, s, ρ, A, F, rel, ?_⟩
  cases e : t σm s with
  | bad => rw [e] at h; exact h
  | ex x s1 =>
    rw [e] at h
    exact fun cls dd H' ρ' fr wd rx => h cls dd σ H' ρ' A F fr.up (rel.next fr wd) .refl rx
  | ok d s1 =>
    rw [e] at h
    exact fun H1 ρ1 fr wd => hk d s1 H1 ρ1 fr wd h
theorem rS_seq {a b : MS} (h : rS K mg W (mSeq a b) Ds σ H) : rS K mg W a { Ds with nx := rS K mg W b Ds } σ H := by
  obtain ⟨σm, s, ρ, A, F, rel, h⟩ := h
  refine ⟨σm, s, ρ, A, F, rel, ?_⟩
  unfold mSeq at h
  cases e : a σm s with
  | nx σ1 s1 =>
    rw [e] at h
    exact fun σ' H' ρ' A' F' fr rel' n => ⟨σ1, s1, ρ', A', F', rel', oS.step fr n h⟩
  | rt d s => rw [e] at h; exact h
  | bk σ s => rw [e] at h; exact h
  | ct σ s => rw [e] at h; exact h
  | ex x σ s => rw [e] at h; exact h
  | bad => rw [e] at h; exact h
end
section
variable {X : Cx} {W : WX} {st : Stmt} {sts : List Stmt} {e c : Expr} {m ma : M} {t : T} {a b : MS} {pos pos' : Pos} {i : Nat} {x : Str}
theorem ss_nil : SSs X W [] mNil := PSs.imp pss_nil fun D σ H ⟨σm, s, ρ, A, F, rel, h⟩ => h σ H ρ A F .refl rel .refl
theorem ss_cons (h1 : SS X W st a) (h2 : SSs X W sts b) : SSs X W (st :: sts) (mSeq a b) := PSs.imp (pss_cons h1 h2) fun D σ H h => rS_seq h
theorem ss_one (h1 : SS X W st a) : SSs X W [st] a := pss_one h1
theorem ss_pass : SS X W (.Pass pos) mNil := PS.imp ps_pass fun D σ H ⟨σm, s, ρ, A, F, rel, h⟩ => h σ H ρ A F .refl rel .refl
theorem ss_break : SS X W (.Break pos) mBreak := PS.imp ps_break fun D σ H ⟨σm, s, ρ, A, F, rel, h⟩ => h σ H ρ A F .refl rel .refl
theorem ss_cont : SS X W (.Continue pos) mCont := PS.imp ps_continue fun D σ H ⟨σm, s, ρ, A, F, rel, h⟩ => h σ H ρ A F .refl rel .refl
theorem ss_do (he : SE X W e m) (hs : swapsWith e none pos.line X.env = pure false := by rfl) : SS X W (.Expr e pos) (mDo m) :=
  PS.imp (ps_expr he hs) fun D σ H ⟨σm, s, ρ, A, F, rel, h⟩ => rE_of_to rel h fun d s1 v H1 ρ1 a f fr wd rp g h => h σ H1 ρ1 A F fr.up (rel.next fr wd) .refl
theorem ss_ret (he : SE X W e m) : SS X W (.Return (some e) pos) (mRet m) :=
  PS.imp (ps_ret he) fun D σ H ⟨σm, s, ρ, A, F, rel, h⟩ => rE_of_to rel h fun d s1 v H1 ρ1 a f fr wd rp g h => h v H1 ρ1 a f fr.up wd rp fun x => by
    obtain ⟨p, q, r⟩ := g x
    exact ⟨p, fun z => ⟨(q z).1, .inl (q z).2⟩, r⟩
theorem ss_retN : SS X W (.Return none pos) mRetN := PS.imp ps_retN fun D σ H ⟨σm, s, ρ, A, F, rel, h⟩ => h .non H ρ c0 c0 .refl rel.wd (.non (fun _ => rfl) (fun _ => rfl)) (.zero (fun _ => rfl) (fun _ => rfl))
theorem ss_retV (i : Nat) {x : Str} {pos' : Pos} (hN : X.N[i]? = some x := by rfl) (hv : Vis X.env.scope x := by first | exact Or.inl rfl | exact Or.inr (Or.inl rfl) | exact Or.inr (Or.inr rfl)) (hd : (x == ("__debug__" : Str)) = false := by decide)
    (hcd : (x == ("__classdict__" : Str)) = false := by decide) : SS X W (.Return (some (.Name x pos')) pos) (mRetV i) :=
  PS.imp (ps_ret (pe_var hN hv hd hcd)) fun D σ H ⟨σm, s, ρ, A, F, rel, h⟩ => by
    unfold mRetV at h
    cases e : σm[i]? with
    | none => rw [e] at h; exact h.elim
    | some o =>
      cases o with
      | none => rw [e] at h; exact h.elim
      | some d =>
        rw [e] at h
        obtain ⟨v, a, f, e2, rp, le⟩ := rel.env.get e
        exact ⟨v, e2, h v H ρ a f .refl rel.wd rp fun x => by
          have := le x
          have s0 := rel.sep x
          exact ⟨by omega, fun z => ⟨by have := s0.2 (by omega); omega, .inr (by omega)⟩, fun z => .inr (.inl (by omega))⟩⟩
theorem ss_if {ss ss' : List Stmt} (hc : ST X W c t) (ha : SSs X W ss a) (hb : SSs X W ss' b) : SS X W (.If c ss ss' pos) (mIf t a b) :=
  PS.imp (ps_if hc ha hb) fun D σ H ⟨σm, s, ρ, A, F, rel, h⟩ => rT_of_to rel h fun c s1 H1 ρ1 fr wd h => by
    cases c with
    | true => exact iteT ⟨σm, s1, ρ1, A, F, rel.next fr wd, oS.step fr.up .refl (by simpa using h)⟩
    | false => exact iteF ⟨σm, s1, ρ1, A, F, rel.next fr wd, oS.step fr.up .refl (by simpa using h)⟩
theorem set_end {K : PySem.W.Frag} {mg : Str → Option Value} {W : WX} {σ : L2.St} {H : Hp} {D : Ends} (h : rS K mg W (mSet i m) D σ H) : rE K mg W m σ H fun x H1 => gName i x σ H1 D.nx := by
  obtain ⟨σm, s, ρ, A, F, rel, h⟩ := h
  refine rE_of_to rel h fun d s1 v H1 ρ1 a f fr wd rp g h => ?_
  split at h
  · rename_i z
    obtain ⟨A', F', rel', n⟩ := rel.set fr wd rp g (rp.noF z.1) i z.2
    exact h _ _ _ _ _ fr.up rel' n
  · exact h.elim
theorem setF_end {K : PySem.W.Frag} {mg : Str → Option Value} {W : WX} {σ : L2.St} {H : Hp} {D : Ends} {msk : List Bool} (h : rS K mg W (mSetF msk i m) D σ H) : rE K mg W m σ H fun x H1 => gName i x σ H1 D.nx := by
  obtain ⟨σm, s, ρ, A, F, rel, h⟩ := h
  refine rEF_of_to rel h fun d s1 v H1 ρ1 a f Am Fm Ar F2 fr wd rp g r2 q h => ?_
  split at h
  · rename_i z
    obtain ⟨A', F', rel', n⟩ := rel.setF r2 q fr wd rp g i z
    exact h _ _ _ _ _ fr.up rel' n
  · exact h.elim
theorem ss_set (i : Nat) (nd : X.N.Nodup) (he : SE X W e m) (hi : X.N[i]? = some x := by rfl) (hx : Loc X.env.scope x := by first | exact .inl rfl | exact .inr rfl) (hs : swapsWith e (some (.Name x pos')) pos.line X.env = pure false := by rfl)
    (hf : X.fn x = true ∨ X.env.scope.names.lookup x = some .local := by first | exact .inl rfl | exact .inr rfl) : SS X W (.Assign [.Name x pos'] e pos) (mSet i m) :=
  PS.imp (ps_set nd hi hx he hs hf) fun D σ H h => set_end h
theorem ss_setF (i : Nat) (msk : List Bool) (nd : X.N.Nodup) (he : SE X W e m) (hi : X.N[i]? = some x := by rfl) (hx : Loc X.env.scope x := by first | exact .inl rfl | exact .inr rfl) (hs : swapsWith e (some (.Name x pos')) pos.line X.env = pure false := by rfl)
    (hf : X.fn x = true ∨ X.env.scope.names.lookup x = some .local := by first | exact .inl rfl | exact .inr rfl) : SS X W (.Assign [.Name x pos'] e pos) (mSetF msk i m) :=
  PS.imp (ps_set nd hi hx he hs hf) fun D σ H h => setF_end h
/-! ### x.append(e) -/
theorem Rel.app {K : PySem.W.Frag} {mg : Str → Option Value} {H H1 : Hp} {ρ ρ1 : List Addr} {σm : Env} {σ : L2.St} {s s1 : Sto} {d : D} {v : V} {A F a f : Cnt} {xs : List D} (rel : Rel K mg σm s σ H ρ A F) (hi : σm[i]? = some (some (.lst true xs))) :
    ∃ (p : Addr) (vs : List V), σ[i]? = some (some (.ref p)) ∧ H p = some (.lst vs) ∧ vs.length = xs.length ∧ ∀ {H1 : Hp} {ρ1 : List Addr} {s1 : Sto} {d : D} {v : V} {a f : Cnt}, Fr c0 H H1 ρ ρ1 → Wd K mg ρ1 s1 H1 → Rep K mg H1 ρ1 d v a f →
      (∀ x, A x + a x ≤ 1 ∧ (1 ≤ A x + a x → F x + f x = 0)) → H1 p = some (.lst vs) ∧ ∃ A' F', Rel K mg (σm.set i (some (.lst true (xs ++ [d])))) s1 σ (upd H1 p (.lst (vs ++ [v]))) ρ1 A' F' ∧ Fr A H (upd H1 p (.lst (vs ++ [v]))) ρ ρ1 ∧ ∀ x, A' x = A x + a x ∧ F' x = F x + f x := by
  obtain ⟨p, vs, a1, f1, A2, F2, e1, hp, r0, q, wr⟩ := rel.wr hi
  refine ⟨p, vs, e1, hp, r0.length.symm, fun {H1 ρ1 s1 d v a f} fr wd rp hs => ?_⟩
  obtain ⟨h1, h2, h3⟩ := wr H1 ρ1 s1 (xs ++ [d]) (vs ++ [v]) _ _ fr wd ((r0.on fr).append (Reps.one rp)) fun x => by
    have := hs x
    have := q x
    constructor
    · omega
    · intro z
      have := (hs x).2 (by omega)
      omega
  refine ⟨h1, _, _, h3, h2, fun x => ?_⟩
  have := q x
  omega
theorem app_end {K : PySem.W.Frag} {mg : Str → Option Value} {W : WX} {σ : L2.St} {H : Hp} {D : Ends} (h : rS K mg W (mApp i m) D σ H) :
    ∃ p l, σ[i]? = some (some (.ref p)) ∧ H p = some (.lst l) ∧ rE K mg W m σ H fun y H1 => ∃ xs, H1 p = some (.lst xs) ∧ xs.length < sizeLine ∧ D.nx σ (upd H1 p (.lst (xs ++ [y]))) := by
  obtain ⟨σm, s, ρ, A, F, rel, h⟩ := h
  unfold mApp at h
  split at h
  · rename_i xs hσ
    obtain ⟨p, vs, e1, hp, hl, wr⟩ := rel.app (H1 := H) (ρ1 := ρ) (s1 := s) (d := .non) (v := .non) (a := c0) (f := c0) hσ
    refine ⟨p, vs, e1, hp, rE_of_to rel h fun d s1 v H1 ρ1 a f fr wd rp g h => ?_⟩
    split at h
    · rename_i z
      have hf := rp.noF z.2
      have ev := rel.env.there
      obtain ⟨h1, A', F', rel', fr', q⟩ := wr fr wd rp fun x => by
        have s0 := rel.sep x
        obtain ⟨g1, g2, g3⟩ := g x
        have h0 := hf x
        by_cases y : 1 ≤ a x
        · have hn := (g2 y).2
          have : ¬ 1 ≤ A x + F x := fun z => by obtain ⟨⟨o, ho⟩, _⟩ := ev x z; rw [hn] at ho; cases ho
          omega
        · exact ⟨by omega, fun z => by have := s0.2 (by omega); omega⟩
      refine ⟨vs, h1, by rw [hl]; exact z.1, h _ _ _ _ _ fr' rel' fun x => ?_⟩
      have := q x
      have h0 := hf x
      obtain ⟨g1, g2, g3⟩ := g x
      refine ⟨fun y => ?_, fun y => .inr (.inl (by omega))⟩
      by_cases w : 1 ≤ a x
      · exact .inr (g2 w).2
      · exact .inl (by omega)
    · exact h.elim
  · exact h.elim
theorem appF_end {K : PySem.W.Frag} {mg : Str → Option Value} {W : WX} {σ : L2.St} {H : Hp} {D : Ends} {msk : List Bool} (h : rS K mg W (mAppF msk i m) D σ H) :
    ∃ p l, σ[i]? = some (some (.ref p)) ∧ H p = some (.lst l) ∧ rE K mg W m σ H fun y H1 => ∃ xs, H1 p = some (.lst xs) ∧ xs.length < sizeLine ∧ D.nx σ (upd H1 p (.lst (xs ++ [y]))) := by
  obtain ⟨σm, s, ρ, A, F, rel, h⟩ := h
  unfold mAppF at h
  split at h
  · rename_i xs hσ
    obtain ⟨Am, Fm, Ar, F2, r1, r2, q⟩ := rel.mask (msk := msk)
    have rel2 : Rel K mg (frzE msk σm) s σ H ρ Ar F2 := ⟨r2, rel.wd, fun x => by
      have s0 := rel.sep x
      have q0 := q x
      refine ⟨by omega, fun z => ?_⟩
      have := s0.2 (by omega)
      by_cases w : 1 ≤ F2 x
      · have := q0.2.2 w; omega
      · omega⟩
    obtain ⟨p, vs, e1, hp, hl, wr⟩ := rel2.app (H1 := H) (ρ1 := ρ) (s1 := s) (d := .non) (v := .non) (a := c0) (f := c0) hσ
    refine ⟨p, vs, e1, hp, _, s, ρ, Am, Fm, r1, ?_⟩
    cases e : m (restr msk σm) s with
    | bad => rw [e] at h; exact h
    | ex x s1 =>
      rw [e] at h
      exact fun cls dd H' ρ' fr wd rx => h cls dd σ H' ρ' A F fr.up (rel.next fr wd) .refl rx
    | ok d s1 =>
      rw [e] at h
      intro v H1 ρ1 a f fr wd rp g
      have h : oS K mg W A F H ρ D (if xs.length < sizeLine then .nx ((frzE msk σm).set i (some (.lst true (xs ++ [fz d])))) s1 else .bad) := h
      split at h
      · rename_i z
        obtain ⟨f', rp', qf⟩ := rp.fz
        have ev := rel.env.there
        have key : ∀ x, 1 ≤ f' x → 1 ≤ Am x ∨ 1 ≤ Fm x ∨ H x = none := fun x h => by
          have := qf x h
          obtain ⟨g1, g2, g3⟩ := g x
          by_cases z : 1 ≤ a x
          · exact .inr (.inr (g2 z).2)
          · exact g3 (by omega)
        obtain ⟨h1, A', F', rel', fr', q'⟩ := wr fr wd rp' fun x => by
          have s0 := rel2.sep x
          have s1 := rel.sep x
          have q0 := q x
          have z0 : c0 x = 0 := rfl
          refine ⟨by omega, fun y => ?_⟩
          have := s0.2 (by omega)
          by_cases w : 1 ≤ f' x
          · rcases key x w with w | w | w
            · omega
            · have := s1.2 (by omega); omega
            · obtain ⟨⟨o, ho⟩, _⟩ := ev x (by omega)
              rw [w] at ho; cases ho
          · omega
        have frA : Fr A H (upd H1 p (.lst (vs ++ [v]))) ρ ρ1 := fr'.mono fun x y => .inl (by have := q x; omega)
        refine ⟨vs, h1, by rw [hl]; exact z, h _ _ _ _ _ frA rel' fun x => ?_⟩
        have z1 := q' x
        have q0 := q x
        have z0 : c0 x = 0 := rfl
        refine ⟨fun y => .inl (by omega), fun y => ?_⟩
        by_cases w : 1 ≤ f' x
        · rcases key x w with w | w | w
          · exact .inl (by omega)
          · exact .inr (.inl (by omega))
          · exact .inr (.inr w)
        · have := q0.2.2 (by omega)
          omega
      · exact h.elim
  · exact h.elim
theorem app_rd {te : TE} {K : PySem.W.Frag} {σ : L2.St} {H : Hp} {D : Ends} (h : ∃ p l, σ[i]? = some (some (.ref p)) ∧ H p = some (.lst l) ∧ te σ H fun y H1 => ∃ xs, H1 p = some (.lst xs) ∧ xs.length < sizeLine ∧ D.nx σ (upd H1 p (.lst (xs ++ [y]))))
    (mono : ∀ {Q Q' : VK}, te σ H Q → (∀ v H1, Q v H1 → Q' v H1) → te σ H Q') : tDrop (tBM K "list" rAppend (tVar i) (tCons te tNil)) D σ H := by
  obtain ⟨p, l, e1, hp, h⟩ := h
  exact ⟨_, e1, .inl ⟨rfl, _, SqL.of hp⟩, mono h fun v H1 ⟨xs, q1, q2, q3⟩ => ⟨p, xs, v, rfl, rfl, q1, q2, q3⟩⟩
theorem ss_app (i : Nat) {apos cpos epos : Pos} (he : SE X W e m) (hN : X.N[i]? = some x := by rfl) (hv : Vis X.env.scope x := by first | exact Or.inl rfl | exact Or.inr (Or.inl rfl) | exact Or.inr (Or.inr rfl))
    (hd : (x == ("__debug__" : Str)) = false := by decide) (hcd : (x == ("__classdict__" : Str)) = false := by decide)
    (hst : starEach [e] X.env = [(false, eval e X.env)] := by rfl) (hline : (apos.endLine == cpos.line) = true := by rfl) (hs : swapsWith (.Call (.Attribute (.Name x pos') "append" apos) [e] [] cpos) none pos.line X.env = pure false := by rfl) :
    SS X W (.Expr (.Call (.Attribute (.Name x pos') "append" apos) [e] [] cpos) pos) (mApp i m) :=
  PS.imp (ps_expr (pe_bm PySem.F.plainAttrs_list PySem.F.slot_list_append PySem.F.type_list_append mt_append (pe_var hN hv hd hcd) (pa_cons he pa_nil hst) (hbase := by rfl) (hfew := by rw [hst]; rfl) (hline := hline) (hs := hst) (hplain := by rfl)) hs) fun D σ H h => app_rd (app_end h) fun h q => rE_mono h q
theorem ss_appF (i : Nat) (msk : List Bool) {apos cpos epos : Pos} (he : SE X W e m) (hN : X.N[i]? = some x := by rfl) (hv : Vis X.env.scope x := by first | exact Or.inl rfl | exact Or.inr (Or.inl rfl) | exact Or.inr (Or.inr rfl))
    (hd : (x == ("__debug__" : Str)) = false := by decide) (hcd : (x == ("__classdict__" : Str)) = false := by decide)
    (hst : starEach [e] X.env = [(false, eval e X.env)] := by rfl) (hline : (apos.endLine == cpos.line) = true := by rfl) (hs : swapsWith (.Call (.Attribute (.Name x pos') "append" apos) [e] [] cpos) none pos.line X.env = pure false := by rfl) :
    SS X W (.Expr (.Call (.Attribute (.Name x pos') "append" apos) [e] [] cpos) pos) (mAppF msk i m) :=
  PS.imp (ps_expr (pe_bm PySem.F.plainAttrs_list PySem.F.slot_list_append PySem.F.type_list_append mt_append (pe_var hN hv hd hcd) (pa_cons he pa_nil hst) (hbase := by rfl) (hfew := by rw [hst]; rfl) (hline := hline) (hs := hst) (hplain := by rfl)) hs) fun D σ H h => app_rd (appF_end h) fun h q => rE_mono h q
end
end Zm
set_option Elab.async false
set_option linter.all false
set_option maxRecDepth 100000
set_option autoImplicit false
/-! Z5: functions: what a def promises by its machine, calls, the law's own call. -/
namespace Zm
open PySem PySem.Spec PyProof.Rows L2
/-- a def's promise where no repr is under way -/
structure FnG (P : Program) (w : World) (K : PySem.W.Frag) (mg : Str → Option Value) (base : Heap) (k : Nat) (f : Addr) (fd : FuncData) (ps : List Str) (sp : Sp) : Prop where
  len : ∀ vs H Q E, sp vs H Q E → vs.length = ps.length
  run : ∀ (A : Around) (out : List PySem.Env) (s : Shared) (H : Hp) (args : Args) (us : List Value) (vs : List V) (Q : VK) (E : XK),
    Room k A → A.guards = some [] → Env0 P w K mg base A out s H → BindsTo s fd args (ps.zip us) → Vals vs us →
    sp vs H Q E → codeAny (model P w) A (.call (.ref f) args) (CR (L2.CX P w) out P w H s Q E) s
section
variable {P : Program} {w : World} {K : PySem.W.Frag} {mg : Str → Option Value} {base : Heap}
theorem FnG.mono {j k : Nat} {f : Addr} {fd : FuncData} {ps : List Str} {sp : Sp} (F : FnG P w K mg base j f fd ps sp) (h : j ≤ k) : FnG P w K mg base k f fd ps sp :=
  ⟨F.len, fun A out s H args us vs Q E hr => F.run A out s H args us vs Q E (hr.mono h)⟩
/-- the context of a def's body -/
abbrev cxG (P : Program) (w : World) (K : PySem.W.Frag) (mg : Str → Option Value) (base : Heap) (N : List Str) (qual : Str) (scope : Scope) (f : Addr) (cd : Value) (A : Around) (out : List PySem.Env) (s : Shared) (H : Hp) (E : XK) : Cx :=
  cxOf (L2.CX P w) P w K mg base N qual scope f cd A out s H E
theorem fnG_of {k : Nat} {f : Addr} {name qual : Str} {params : Arguments} {body : List Stmt} {scope : Scope} {dV kV doc pm cdv ct oc : Value} {an od : Option Addr} {osl : Array (Option Value)} {N ps : List Str} {sp : Sp}
    (lk : K.lookup f = some ⟨oc, od, .func (PySem.W.fnOf name qual params body scope dV kV doc pm an cdv ct), osl⟩)
    (hcd : PySem.W.codeIn K cdv qual = true) (S : FnScope N ps scope)
    (len : ∀ vs H Q E, sp vs H Q E → vs.length = ps.length)
    (hb : ∀ (A : Around) (out : List PySem.Env) (s : Shared) (H : Hp) (vs : List V) (Q : VK) (E : XK),
      Room k (A.deeper (envOfC qual scope s.heap.objs.size f cdv)) → A.guards = some [] → sp vs H Q E →
      ∃ t, PSs (cxG P w K mg base N qual scope f cdv A out s H E) body t ∧ t { nx := fun _ H' => Q .non H', rt := Q } (start N vs) H) :
    FnG P w K mg base (k + 1) f (PySem.W.fnOf name qual params body scope dV kV doc pm an cdv ct) ps sp := by
  refine ⟨len, ?_⟩
  intro A out s H args us vs Q E room gd ent binds vals want
  have nvs := len _ _ _ _ want
  have kin : K.In s.heap :=
    ent.mod.kin.keeps fun b o e => (ent.bs b o e).1
  have nol : s.heap.NoLimit :=
    ent.mod.nolimit.keeps fun b o e => (ent.bs b o e).1
  have kinds : ∀ y ∈ ps.zip us, scope.names.lookup y.1 = some .local ∨
      (scope.names.lookup y.1 = some .cell ∧ ((cellsFrom (s.heap.objs.size + 1) scope.names []).lookup y.1).isSome = true) := by
    rintro ⟨n, v⟩ hy
    have hn := (List.of_mem_zip hy).1
    cases S.par n hn with
    | inl q => exact .inl q
    | inr q => exact .inr ⟨q, PySem.W.cellsFrom_some _ _ _ (.inl q)⟩
  refine codeAny_call_function room.depth (kin _ _ lk) rfl S.co S.gen rfl
    (PySem.W.codeRec_of kin hcd) (binds _ _ _ _ ?_)
  refine wpAny_newFunctionEnv_cells S.kind kinds ?_
  intro env he s1 x
  subst he
  obtain ⟨t, ht, hq⟩ := hb A out s H vs Q E (room.deeper _) gd want
  have inv0 : Inv (cxG P w K mg base N qual scope f cdv A out s H E) [] (start N vs) H s1 :=
    inv_start S room.hd ent nvs vals x
  refine ⟨nol.keeps x.toInCall.keep, codeAny_func (wpAny_mono (ht.run [] s1 (start N vs) H _ inv0 hq) ?_ (fun _ _ z => z))⟩
  intro fl s' hs
  cases fl with
  | brk => obtain ⟨_, _, _, z⟩ := hs; exact z.elim
  | cont => obtain ⟨_, _, _, z⟩ := hs; exact z.elim
  | next =>
    obtain ⟨σ', H', J, z⟩ := hs
    exact ⟨.non, H', J.os, J.bare, J.base, J.hok, rfl, z⟩
  | ret u =>
    obtain ⟨v, σ', H', J, rv, z⟩ := hs
    exact ⟨v, H', J.os, J.bare, J.base, J.hok, rv, z⟩
end
section
variable {X : Cx} {k : Nat} {f : Addr} {fd : FuncData} {ps : List Str} {sp : Sp} {E : L2.St → XK} {x : Str} {p pos : Pos} {e : Expr} {es : List Expr} {t : TA}
theorem run_fnG {pins : List (Addr × Obj)} {σ : L2.St} {H : Hp} {s : Shared} {Q : VK} {us : List Value} {vs : List V} (F : FnG X.prog X.w X.K X.mg X.base k f fd ps sp) (hr : Room k X.A) (hg : X.A.guards = some [])
    (hb : Binds X.K fd ps []) (hx : PassesAt (L2.CX X.prog X.w) X σ (E σ)) (I : Inv X pins σ H s) (r : Vals vs us) (h : sp vs H Q (E σ)) :
    wpAny (model X.prog X.w) X.A (call (.ref f) us) (EP X pins σ Q) X.xe s := by
  have nus : us.length = ps.length := r.length ▸ F.len _ _ _ _ h
  have bnd := hb s us I.kIn (by simpa using nus)
  simp only [List.append_nil] at bnd
  refine wpAny_call (codeAny_mono (F.run X.A X.stack s H ⟨us, []⟩ us vs Q (E σ) hr hg I.env0 bnd r h) ?_)
  intro res s' hq
  match res, hq with
  | .error e, hq => exact hx pins H s e s' I hq
  | .ok (.ret u), hq => exact I.after hq
  | .ok .next, hq => exact hq.elim
  | .ok .brk, hq => exact hq.elim
  | .ok .cont, hq => exact hq.elim
theorem pe_callG (F : FnG X.prog X.w X.K X.mg X.base k f fd ps sp) (hr : Room k X.A) (hgd : X.A.guards = some []) (hg : Gl X x) (hm : X.mg x = some (.ref f)) (hk : PySem.W.keepIn X.K (.ref f) = true) (hb : Binds X.K fd ps [])
    (hx : ∀ σ, PassesAt (L2.CX X.prog X.w) X σ (E σ)) (ha : PA X (e :: es) t) (hdb : (x == ("__debug__" : Str)) = false := by decide)
    (he : starEach (e :: es) X.env = (false, eval e X.env) :: starEach es X.env := by rfl) (hpl : (backTo pos (starEach es X.env)).any (·.1) = false := by rfl) :
    PE X (.Call (.Name x p) (e :: es) [] pos) (tCallS sp E t) := by
  constructor
  intro pins s σ H Q I h
  refine wpAny_Call_Name_kw (ld_glob I hg hm ?_ hdb)
  refine PySem.W.callWith_K (h₀ := X.base) I.ok.mod.kin hk (thn (ha.run pos pins s σ H _ I h) ?_) he hpl
  rintro us s1 ⟨vs, H1, I1, r, q⟩
  exact ⟨I1.kIn, run_fnG F hr hgd hb (hx σ) I1 r q⟩
theorem pe_callG0 (F : FnG X.prog X.w X.K X.mg X.base k f fd ps sp) (hr : Room k X.A) (hgd : X.A.guards = some []) (hg : Gl X x) (hm : X.mg x = some (.ref f)) (hk : PySem.W.keepIn X.K (.ref f) = true) (hb : Binds X.K fd ps [])
    (hx : ∀ σ, PassesAt (L2.CX X.prog X.w) X σ (E σ)) (hdb : (x == ("__debug__" : Str)) = false := by decide) : PE X (.Call (.Name x p) [] [] pos) (tCallS sp E tNil) := by
  constructor
  intro pins s σ H Q I h
  refine wpAny_Call_Name_kw (ld_glob I hg hm ?_ hdb)
  exact PySem.W.callWith_K0 I.kIn hk (run_fnG (us := []) F hr hgd hb (hx σ) I .nil h)
end
/-! ### the machine's promise -/
section
variable (K : PySem.W.Frag) (mg : Str → Option Value)
def oF (a f : Cnt) (H : Hp) (ρ : List Addr) (Q : VK) (E : XK) : R D → Prop
  | .ok d s' => ∀ v H' ρ' a' f', Fr a H H' ρ ρ' → Wd K mg ρ' s' H' → Rep K mg H' ρ' d v a' f' → Out a f H a' f' → Q v H'
  | .ex x s' => ∀ cls dd H' ρ', Fr a H H' ρ ρ' → Wd K mg ρ' s' H' → RepX mg H' x cls dd → E cls dd H'
  | .bad => False
def spF (m : Fn) : Sp := fun vs H Q E => ∃ ds s ρ a f, Wd K mg ρ s H ∧ Reps K mg H ρ ds vs a f ∧ Sp1 a f ∧ oF K mg a f H ρ Q E (m ds s)
end
/-- np parameters, ns slots -/
def mkFn (np ns : Nat) (body : MS) : Fn := fun ds s => if ds.length = np then match body (ds.map some ++ List.replicate (ns - np) none) s with
    | .rt d s' => .ok d s'
    | .nx _ s' => .ok .non s'
    | .ex x _ s' => .ex x s'
    | _ => .bad
  else .bad
@[simp] def mCall (f : Fn) (ms : List M) : M := fun σ s => (mArgs ms σ s).bind f
section
variable {K : PySem.W.Frag} {mg : Str → Option Value} {H : Hp} {ρ : List Addr}
theorem EnvR.start : ∀ {ds : List D} {vs : List V} {a f : Cnt} (n : Nat), Reps K mg H ρ ds vs a f → EnvR K mg H ρ (ds.map some ++ List.replicate n none) (vs.map some ++ List.replicate n none) a f
  | _, _, a, f, 0, .nil h1 h2 => .nil h1 h2
  | _, _, a, f, n + 1, .nil h1 h2 => by
    show EnvR K mg H ρ (none :: List.replicate n none) (none :: List.replicate n none) a f
    exact .no (EnvR.start n (.nil h1 h2))
  | _, _, _, _, n, .cons h t e1 e2 => .yes h (EnvR.start n t) e1 e2
theorem spF_len {m : Fn} {np : Nat} (har : ∀ ds s, ds.length ≠ np → m ds s = .bad) {vs : List V} {Q : VK} {E : XK} (h : spF K mg m vs H Q E) : vs.length = np := by
  obtain ⟨ds, s, ρ, a, f, wd, rp, sp, h⟩ := h
  rw [← rp.length]
  by_cases q : ds.length = np
  · exact q
  · rw [har ds s q] at h; exact h.elim
theorem mkFn_ar {np ns : Nat} {body : MS} : ∀ ds s, ds.length ≠ np → mkFn np ns body ds s = .bad := fun ds s h => by unfold mkFn; rw [if_neg h]
theorem body_of {N : List Str} {np ns : Nat} {body : MS} {vs : List V} {Q : VK} {E : XK} (hN : N.length = ns) (hnp : np ≤ ns) (h : spF K mg (mkFn np ns body) vs H Q E) :
    rS K mg (fun cls dd _ H => E cls dd H) body { nx := fun _ H' => Q .non H', rt := Q } (L2.start N vs) H := by
  have hl := spF_len mkFn_ar h
  obtain ⟨ds, s, ρ, a, f, wd, rp, sp, h⟩ := h
  have hd : ds.length = np := by rw [rp.length, hl]
  unfold mkFn at h
  rw [if_pos hd] at h
  have es : EnvR K mg H ρ (ds.map some ++ List.replicate (ns - np) none) (L2.start N vs) a f := by
    unfold L2.start
    rw [hN, hl]
    exact EnvR.start _ rp
  refine ⟨ds.map some ++ List.replicate (ns - np) none, s, ρ, a, f, ⟨es, wd, sp⟩, ?_⟩
  · cases e : body (ds.map some ++ List.replicate (ns - np) none) s with
    | nx σ' s' =>
      rw [e] at h
      exact fun σ' H' ρ' A' F' fr rel n => h .non H' ρ' c0 c0 fr rel.wd (.non (fun _ => rfl) (fun _ => rfl)) (.zero (fun _ => rfl) (fun _ => rfl))
    | rt d s' => rw [e] at h; exact h
    | bk σ s => rw [e] at h; exact h.elim
    | ct σ s => rw [e] at h; exact h.elim
    | bad => rw [e] at h; exact h.elim
    | ex x σ s' =>
      rw [e] at h
      exact fun cls dd σ' H' ρ' A' F' fr rel n rx => h cls dd H' ρ' fr rel.wd rx
theorem rE_call {W : WX} {σ : L2.St} {H : Hp} {Q : VK} {fn : Fn} {ms : List M} (h : rE K mg W (mCall fn ms) σ H Q) : rA K mg W (mArgs ms) σ H fun vs H1 => spF K mg fn vs H1 Q (WE W σ) := by
  obtain ⟨σm, s, ρ, A, F, rel, h⟩ := h
  refine ⟨σm, s, ρ, A, F, rel, ?_⟩
  unfold mCall at h
  cases e : mArgs ms σm s with
  | bad => rw [e] at h; exact h
  | ex x s1 => rw [e] at h; exact h
  | ok ds s1 =>
    rw [e, Zm.R.bind_ok] at h
    intro vs H1 ρ1 a f fr wd rp g
    refine ⟨ds, s1, ρ1, a, f, wd, rp, g.sp, ?_⟩
    cases e2 : fn ds s1 with
    | bad => rw [e2] at h; exact h
    | ex x s2 =>
      rw [e2] at h
      exact fun cls dd H2 ρ2 fr2 wd2 rx => h cls dd H2 ρ2 (fr.trans fr2 fun x z => .inr ((g x).2.1 z).2) wd2 rx
    | ok d s2 =>
      rw [e2] at h
      exact fun v H2 ρ2 a' f' fr2 wd2 rp2 o => h v H2 ρ2 a' f' (fr.trans fr2 fun x z => .inr ((g x).2.1 z).2) wd2 rp2 (g.out fr o)
end
/-- a def of the text keeps its machine's promise -/
structure FnM (P : Program) (w : World) (K : PySem.W.Frag) (mg : Str → Option Value) (base : Heap) (k : Nat) (x : Str) (ps : List Str) (m : Fn) : Prop where
  ex : ∃ f fd, mg x = some (.ref f) ∧ PySem.W.keepIn K (.ref f) = true ∧ Binds K fd ps [] ∧ FnG P w K mg base k f fd ps (spF K mg m)
section
variable {P : Program} {w : World} {K : PySem.W.Frag} {mg : Str → Option Value} {base : Heap}
theorem FnM.mono {j k : Nat} {x : Str} {ps : List Str} {m : Fn} (F : FnM P w K mg base j x ps m) (h : j ≤ k) : FnM P w K mg base k x ps m := by
  obtain ⟨f, fd, a, b, c, d⟩ := F.ex
  exact ⟨f, fd, a, b, c, d.mono h⟩
theorem fnM_mk {x qual : Str} {st : Stmt} {f : Addr} {fd : FuncData} {N ps : List Str} {k np ns : Nat} {body : MS} (F : Fun K x qual st f fd) (S : FnScope N ps (defScope st)) (hm : mg x = some (.ref f)) (hb : Binds K fd ps [])
    (h : ∀ (cdv : Value) (A : Around) (out : List PySem.Env) (s : Shared) (H : Hp) (E : XK), Room k (A.deeper (envOfC qual (defScope st) s.heap.objs.size f cdv)) → A.guards = some [] →
      SSs (cxG P w K mg base N qual (defScope st) f cdv A out s H E) (fun cls dd _ H => E cls dd H) (defBody st) body)
    (hN : N.length = ns := by rfl) (hps : ps.length = np := by rfl) (hnp : np ≤ ns := by decide) : FnM P w K mg base (k + 1) x ps (mkFn np ns body) := by
  refine ⟨f, fd, hm, F.kp, hb, ?_⟩
  obtain ⟨oc, od, kV, doc, pm, an, cdv, ct, osl, rfl, lk, hcd⟩ := F.ex
  refine fnG_of lk hcd S (fun vs H Q E q => by rw [spF_len mkFn_ar q, hps]) fun A out s H vs Q E hr hg q => ?_
  exact ⟨_, h cdv A out s H E hr hg, body_of hN hnp q⟩
end
section
variable {X : Cx} {W : WX} {e : Expr} {es : List Expr} {ms : List M} {k : Nat} {x : Str} {ps : List Str} {m : Fn} {p pos : Pos}
theorem s_call (F : FnM X.prog X.w X.K X.mg X.base k x ps m) (hr : Room k X.A) (hgd : X.A.guards = some []) (tk : Takes X W) (ha : SA X W (e :: es) ms) (hg : Gl X x := by rfl) (hdb : (x == ("__debug__" : Str)) = false := by decide)
    (he : starEach (e :: es) X.env = (false, eval e X.env) :: starEach es X.env := by rfl) (hpl : (backTo pos (starEach es X.env)).any (·.1) = false := by rfl) : SE X W (.Call (.Name x p) (e :: es) [] pos) (mCall m ms) := by
  obtain ⟨f, fd, a, b, c, d⟩ := F.ex
  exact PE.imp (pe_callG d hr hgd hg a b c (E := WE W) (fun σ => passAt tk σ) ha hdb he hpl) fun σ H Q h => rE_call h
theorem s_call0 (F : FnM X.prog X.w X.K X.mg X.base k x ps m) (hr : Room k X.A) (hgd : X.A.guards = some []) (tk : Takes X W) (hg : Gl X x := by rfl) (hdb : (x == ("__debug__" : Str)) = false := by decide) : SE X W (.Call (.Name x p) [] [] pos) (mCall m []) := by
  obtain ⟨f, fd, a, b, c, d⟩ := F.ex
  exact PE.imp (pe_callG0 d hr hgd hg a b c (E := WE W) (fun σ => passAt tk σ) hdb) fun σ H Q h => rA_nil (rE_call h)
end
end Zm
set_option Elab.async false
set_option linter.all false
set_option maxRecDepth 100000
set_option autoImplicit false
/-! Z6: targets, what is walked, loops, comprehensions. -/
namespace Zm
open PySem PySem.Spec PyProof.Rows L2
inductive Tg where
  | nm (i : Nat) | t2 (a b : Tg) | t3 (a b c : Tg)
def Tg.bind : Tg → D → Env → Option Env
  | .nm i, d, σ => if i < σ.length then some (σ.set i (some d)) else none
  | .t2 a b, .tup [x, y], σ => (a.bind x σ).bind fun σ1 => b.bind y σ1
  | .t3 a b c, .tup [x, y, z], σ => (a.bind x σ).bind fun σ1 => (b.bind y σ1).bind fun σ2 => c.bind z σ2
  | _, _, _ => none
def Tg.slots : Tg → List Nat
  | .nm i => [i]
  | .t2 a b => a.slots ++ b.slots
  | .t3 a b c => a.slots ++ (b.slots ++ c.slots)
def Chg (ss : List Nat) (σ σ' : L2.St) : Prop := σ'.length = σ.length ∧ ∀ j, j ∉ ss → σ'[j]? = σ[j]?
theorem Chg.trans {ss ss' : List Nat} {σ σ1 σ2 : L2.St} (a : Chg ss σ σ1) (b : Chg ss' σ1 σ2) : Chg (ss ++ ss') σ σ2 := ⟨b.1.trans a.1, fun j hj => by
  rw [List.mem_append] at hj
  exact (b.2 j fun z => hj (.inr z)).trans (a.2 j fun z => hj (.inl z))⟩
/-- what a target's store promises -/
def rG (K : PySem.W.Frag) (mg : Str → Option Value) (tg : Tg) : TG := fun v σ H Q => ∃ σm s ρ A F d f, Rel K mg σm s σ H ρ A F ∧ Rep K mg H ρ d v c0 f ∧ (∀ x, 1 ≤ f x → A x = 0) ∧ ∃ σ1, tg.bind d σm = some σ1 ∧
  ∀ σ' A' F', Rel K mg σ1 s σ' H ρ A' F' → (∀ x, A' x ≤ A x ∧ (1 ≤ F' x → 1 ≤ F x ∨ 1 ≤ f x)) → Chg tg.slots σ σ' → Q σ' H
def SG (X : Cx) (e : Expr) (tg : Tg) : Prop := PG X e (rG X.K X.mg tg)
theorem PG.imp {X : Cx} {e : Expr} {t t' : TG} (h : PG X e t) (q : ∀ v σ H Q, t' v σ H Q → t v σ H Q) : PG X e t' := ⟨fun pins s σ H v u Q I r w => h.run pins s σ H v u Q I r (q v σ H Q w)⟩
section
variable {X : Cx} {pos : Pos}
theorem sg_nm (i : Nat) {x : Str} (nd : X.N.Nodup) (hi : X.N[i]? = some x := by rfl) (hx : Loc X.env.scope x := by first | exact .inl rfl | exact .inr rfl) (hf : X.fn x = true ∨ X.env.scope.names.lookup x = some .local := by first | exact .inl rfl | exact .inr rfl) : SG X (.Name x pos) (.nm i) :=
  PG.imp (pg_name nd hi hx hf) fun v σ H Q ⟨σm, s, ρ, A, F, d, f, rel, rp, dj, σ1, e, h⟩ => by
    unfold Tg.bind at e
    split at e
    · rename_i hi
      cases e
      obtain ⟨A', F', e', le, _⟩ := rel.env.set i rp hi
      refine h _ A' F' ⟨e', rel.wd, fun x => ?_⟩ (fun x => ?_) ?_
      · have := le x
        have s0 := rel.sep x
        have z0 : c0 x = 0 := rfl
        refine ⟨by omega, fun y => ?_⟩
        have := s0.2 (by omega)
        by_cases w : 1 ≤ f x
        · have := dj x w; omega
        · omega
      · have := le x
        have z0 : c0 x = 0 := rfl
        exact ⟨by omega, fun y => by omega⟩
      · exact ⟨by simp, fun j hj => List.getElem?_set_ne (fun z => hj (by simp [Tg.slots, z]))⟩
    · cases e
theorem sg_t2 {e1 e2 : Expr} {k : Nat} {a b : Tg} (hc : X.calm = true) (h1 : SG X e1 a) (h2 : SG X e2 b) (hs1 : (assignEach [e1, e2] X.env).map (·.2) = assign e1 X.env :: (assignEach [e2] X.env).map (·.2) := by rfl) (hs2 : (assignEach [e2] X.env).map (·.2) = assign e2 X.env :: (assignEach [] X.env).map (·.2) := by rfl)
    (hn : (assignEach [e1, e2] X.env).length = 2 := by rfl) (hst : (assignEach [e1, e2] X.env).findIdx? (·.1) = none := by rfl) : SG X (.Tuple [e1, e2] k pos) (.t2 a b) :=
  PG.imp (pg_tup hc (pgs_cons h1 (pgs_cons h2 pgs_nil hs2) hs1) hn hst) fun v σ H Q ⟨σm, s, ρ, A, F, d, f, rel, rp, dj, σ1, e, h⟩ => by
    match d, rp, e with
    | .tup [x, y], .tup hp r, e =>
      obtain ⟨vx, vy, ax, fx, ay, fy, rfl, rx, ry, q⟩ := r.inv2
      have e : (a.bind x σm).bind (fun σ1 => b.bind y σ1) = some σ1 := e
      cases ea : a.bind x σm with
      | none => rw [ea] at e; cases e
      | some σa =>
        rw [ea] at e
        have e : b.bind y σa = some σ1 := e
        have zx : ax = c0 := funext fun x => by have := (q x).1; have z0 : c0 x = 0 := rfl; omega
        have zy : ay = c0 := funext fun x => by have := (q x).1; have z0 : c0 x = 0 := rfl; omega
        subst zx zy
        refine ⟨_, _, rfl, SqT.of hp, rfl, vx, _, rfl, ⟨σm, s, ρ, A, F, x, fx, rel, rx, fun p hp => dj p (by have := q p; omega), σa, ea, fun σ2 A2 F2 rel2 le2 ch2 => ?_⟩⟩
        refine ⟨vy, _, rfl, ⟨σa, s, ρ, A2, F2, y, fy, rel2, ry, fun p hp => by have := dj p (by have := q p; omega); have := le2 p; omega, σ1, e, fun σ3 A3 F3 rel3 le3 ch3 => ?_⟩⟩
        exact ⟨rfl, h σ3 A3 F3 rel3 (fun p => ⟨by have := le2 p; have := le3 p; omega, fun z => by
          have q0 := q p
          rcases (le3 p).2 z with w | w
          · rcases (le2 p).2 w with u | u
            · exact .inl u
            · exact .inr (by omega)
          · exact .inr (by omega)⟩) (ch2.trans ch3)⟩
theorem sg_t3 {e1 e2 e3 : Expr} {k : Nat} {a b c : Tg} (hc : X.calm = true) (h1 : SG X e1 a) (h2 : SG X e2 b) (h3 : SG X e3 c) (hs1 : (assignEach [e1, e2, e3] X.env).map (·.2) = assign e1 X.env :: (assignEach [e2, e3] X.env).map (·.2) := by rfl) (hs2 : (assignEach [e2, e3] X.env).map (·.2) = assign e2 X.env :: (assignEach [e3] X.env).map (·.2) := by rfl)
    (hs3 : (assignEach [e3] X.env).map (·.2) = assign e3 X.env :: (assignEach [] X.env).map (·.2) := by rfl)
    (hn : (assignEach [e1, e2, e3] X.env).length = 3 := by rfl) (hst : (assignEach [e1, e2, e3] X.env).findIdx? (·.1) = none := by rfl) : SG X (.Tuple [e1, e2, e3] k pos) (.t3 a b c) :=
  PG.imp (pg_tup hc (pgs_cons h1 (pgs_cons h2 (pgs_cons h3 pgs_nil hs3) hs2) hs1) hn hst) fun v σ H Q ⟨σm, s, ρ, A, F, d, f, rel, rp, dj, σ1, e, h⟩ => by
    match d, rp, e with
    | .tup [x, y, z], .tup hp r, e =>
      obtain ⟨vx, vy, vz, ax, fx, ay, fy, az, fz, rfl, rx, ry, rz, q⟩ := r.inv3
      have e : (a.bind x σm).bind (fun σ1 => (b.bind y σ1).bind fun σ2 => c.bind z σ2) = some σ1 := e
      cases ea : a.bind x σm with
      | none => rw [ea] at e; cases e
      | some σa =>
        rw [ea] at e
        have e : (b.bind y σa).bind (fun σ2 => c.bind z σ2) = some σ1 := e
        cases eb : b.bind y σa with
        | none => rw [eb] at e; cases e
        | some σb =>
          rw [eb] at e
          have e : c.bind z σb = some σ1 := e
          have zx : ax = c0 := funext fun x => by have := (q x).1; have z0 : c0 x = 0 := rfl; omega
          have zy : ay = c0 := funext fun x => by have := (q x).1; have z0 : c0 x = 0 := rfl; omega
          have zz : az = c0 := funext fun x => by have := (q x).1; have z0 : c0 x = 0 := rfl; omega
          subst zx zy zz
          refine ⟨_, _, rfl, SqT.of hp, rfl, vx, _, rfl, ⟨σm, s, ρ, A, F, x, fx, rel, rx, fun p hp => dj p (by have := q p; omega), σa, ea, fun σ2 A2 F2 rel2 le2 ch2 => ?_⟩⟩
          refine ⟨vy, _, rfl, ⟨σa, s, ρ, A2, F2, y, fy, rel2, ry, fun p hp => by have := dj p (by have := q p; omega); have := le2 p; omega, σb, eb, fun σ3 A3 F3 rel3 le3 ch3 => ?_⟩⟩
          refine ⟨vz, _, rfl, ⟨σb, s, ρ, A3, F3, z, fz, rel3, rz, fun p hp => by have := dj p (by have := q p; omega); have := le2 p; have := le3 p; omega, σ1, e, fun σ4 A4 F4 rel4 le4 ch4 => ?_⟩⟩
          exact ⟨rfl, h σ4 A4 F4 rel4 (fun p => ⟨by have := le2 p; have := le3 p; have := le4 p; omega, fun w => by
            have q0 := q p
            rcases (le4 p).2 w with w | w
            · rcases (le3 p).2 w with w | w
              · rcases (le2 p).2 w with u | u
                · exact .inl u
                · exact .inr (by omega)
              · exact .inr (by omega)
            · exact .inr (by omega)⟩) (ch2.trans (ch3.trans ch4))⟩
end
/-! ### what is walked -/
/-- the iterator J gives the trees ds, one a turn, as long as what they stand on is left alone -/
def ItOK (K : PySem.W.Frag) (mg : Str → Option Value) (J : It) (ds : List D) (H : Hp) (ρ : List Addr) (f : Cnt) : Prop :=
  (∀ x, 1 ≤ f x → ∃ o, H x = some o) ∧ ∃ (G : Hp → Prop) (Y : Nat → Hp → V → Hp → Prop), Walk J ds.length G Y ∧
    ∀ (Mc : Cnt) (H1 : Hp) (ρ1 : List Addr), Fr Mc H H1 ρ ρ1 → (∀ x, 1 ≤ Mc x → f x = 0) → G H1 ∧
      ∀ (i : Nat) (d : D) (x : V) (H2 : Hp), ds[i]? = some d → Y i H1 x H2 → Same H1 H2 ∧ ∃ f', Rep K mg H2 ρ1 d x c0 f' ∧ ∀ p, f' p ≤ f p
abbrev Src := Env → Sto → R (List D)
section
variable (K : PySem.W.Frag) (mg : Str → Option Value) (W : WX)
def oI (σ : L2.St) (A F : Cnt) (H : Hp) (ρ : List Addr) (z : Bool) (Q : It → Hp → Prop) : R (List D) → Prop
  | .ok ds s' => ∀ J H' ρ' f, Fr c0 H H' ρ ρ' → Wd K mg ρ' s' H' → ItOK K mg J ds H' ρ' f → (∀ x, 1 ≤ f x → z = false ∧ (1 ≤ A x ∨ 1 ≤ F x ∨ H x = none)) → Q J H'
  | .ex x s' => ∀ cls dd H' ρ', Fr c0 H H' ρ ρ' → Wd K mg ρ' s' H' → RepX mg H' x cls dd → W cls dd σ H'
  | .bad => False
def rI (z : Bool) (m : Src) : TI := fun σ H Q => ∃ σm s ρ A F, Rel K mg σm s σ H ρ A F ∧ oI K mg W σ A F H ρ z Q (m σm s)
end
/-- z: nothing that may be changed is walked -/
def SI (X : Cx) (W : WX) (z : Bool) (tg iter : Expr) (m : Src) : Prop := PI X tg iter (rI X.K X.mg W z m)
theorem PI.imp {X : Cx} {tg e : Expr} {t t' : TI} (h : PI X tg e t) (q : ∀ σ H Q, t' σ H Q → t σ H Q) : PI X tg e t' := ⟨fun pins s σ H Q I w => h.run pins s σ H Q I (q σ H Q w)⟩
def iL (m : M) : Src := fun σ s => (m σ s).bind fun d s' => match d with
  | .lst _ ds => .ok (fzs ds) s'
  | _ => .bad
def iT (m : M) : Src := fun σ s => (m σ s).bind fun d s' => match d with
  | .tup ds => .ok (fzs ds) s'
  | _ => .bad
def rng (lo hi step : Int) (n : Nat) : List D := (List.range n).map fun i => .int (lo + (i : Nat) * step)
def big (i : Int) : Bool := decide (-(2 ^ 62) ≤ i ∧ i < 2 ^ 62)
def iR1 (ms : List M) : Src := fun σ s => (mArgs ms σ s).bind fun ds s' => match ds with
  | [.int j] => if big j = true then .ok (rng 0 j 1 j.toNat) s' else .bad
  | _ => .bad
def iR2 (ms : List M) : Src := fun σ s => (mArgs ms σ s).bind fun ds s' => match ds with
  | [.int i, .int j] => if big i = true ∧ big j = true then .ok (rng i j 1 (j - i).toNat) s' else .bad
  | _ => .bad
/-- down by ones -/
def iR3 (ms : List M) : Src := fun σ s => (mArgs ms σ s).bind fun ds s' => match ds with
  | [.int i, .int j, .int c] => if big i = true ∧ big j = true ∧ c = -1 then .ok (rng i j (-1) (i - j).toNat) s' else .bad
  | _ => .bad
section
variable {K : PySem.W.Frag} {mg : Str → Option Value} {H : Hp} {ρ : List Addr}
theorem it_range {lo : Int} {n : Nat} {hi : Int} : ItOK K mg (Itr lo n) (rng lo hi 1 n) H ρ c0 := by
  refine ⟨fun _ hx => no0 hx, fun _ => True, YFn fun i => .int (lo + i), by unfold rng; rw [List.length_map, List.length_range]; exact walk_range, fun Mc H1 ρ1 fr hm => ⟨trivial, fun i d x H2 e y => ?_⟩⟩
  obtain ⟨rfl, rfl⟩ := y
  unfold rng at e
  rw [List.getElem?_map] at e
  have hi : i < n := by
    by_cases z : i < n
    · exact z
    · rw [List.getElem?_eq_none (by simpa using z)] at e; cases e
  rw [List.getElem?_range hi] at e
  simp at e; subst e
  exact ⟨fun _ _ h => h, c0, .int (fun _ => rfl) (fun _ => rfl), fun _ => Nat.le_refl _⟩
theorem it_rangeC {lo c : Int} {n : Nat} {hi : Int} : ItOK K mg (Itc lo c n) (rng lo hi c n) H ρ c0 := by
  refine ⟨fun _ hx => no0 hx, fun _ => True, YFn fun i => .int (lo + (i : Nat) * c), by unfold rng; rw [List.length_map, List.length_range]; exact walk_rangeC, fun Mc H1 ρ1 fr hm => ⟨trivial, fun i d x H2 e y => ?_⟩⟩
  obtain ⟨rfl, rfl⟩ := y
  unfold rng at e
  rw [List.getElem?_map] at e
  have hi : i < n := by
    by_cases z : i < n
    · exact z
    · rw [List.getElem?_eq_none (by simpa using z)] at e; cases e
  rw [List.getElem?_range hi] at e
  simp at e; subst e
  exact ⟨fun _ _ h => h, c0, .int (fun _ => rfl) (fun _ => rfl), fun _ => Nat.le_refl _⟩
end
end Zm
set_option Elab.async false
set_option linter.all false
set_option maxRecDepth 100000
set_option autoImplicit false
/-! Z7: loops and comprehensions by machine. -/
namespace Zm
open PySem PySem.Spec PyProof.Rows L2
def forR (tg : Tg) (body : MS) : List D → Env → Sto → RS
  | [], σ, s => .nx σ s
  | d :: ds, σ, s => match tg.bind d σ with
    | none => .bad
    | some σ1 => match body σ1 s with
      | .nx σ2 s2 => forR tg body ds σ2 s2
      | .ct σ2 s2 => forR tg body ds σ2 s2
      | .bk σ2 s2 => .nx σ2 s2
      | r => r
def mFor (msk : List Bool) (src : Src) (tg : Tg) (body : MS) : MS := fun σ s => (src (restr msk σ) s).to σ fun ds s' => forR tg body ds (frzE msk σ) s'
def mForP (src : Src) (tg : Tg) (body : MS) : MS := fun σ s => (src σ s).to σ fun ds s' => forR tg body ds σ s'
def whileR (t : T) (body : MS) : Nat → Env → Sto → RS
  | 0, _, _ => .bad
  | n + 1, σ, s => (t σ s).to σ fun b s1 => if b = true then match body σ s1 with
      | .nx σ2 s2 => whileR t body n σ2 s2
      | .ct σ2 s2 => whileR t body n σ2 s2
      | .bk σ2 s2 => .nx σ2 s2
      | r => r
    else .nx σ s1
@[simp] def wipeE (σ : Env) : List Nat → Env
  | [] => σ
  | v :: vs => (wipeE σ vs).set v none
def lcR (tg : Tg) (t : T) (m : M) (σ : Env) : List D → List D → Sto → R D
  | [], acc, s => .ok (.lst true acc) s
  | d :: ds, acc, s => match tg.bind d σ with
    | none => .bad
    | some σ1 => match t σ1 s with
      | .ok b s1 => if b = true then match m σ1 s1 with
          | .ok x s2 => if acc.length < sizeLine then lcR tg t m σ ds (acc ++ [x]) s2 else .bad
          | _ => .bad
        else lcR tg t m σ ds acc s1
      | _ => .bad
@[simp] def tTrue : T := fun _ s => .ok true s
def Tg.within (tg : Tg) (vs : List Nat) : Bool := tg.slots.all fun i => vs.contains i
@[simp] def fzE (σ : Env) : Env := σ.map fun o => o.map fz
def mLc (src : Src) (tg : Tg) (vs : List Nat) (t : T) (m : M) : M := fun σ s => (src σ s).bind fun ds s' => if tg.within vs = true then lcR tg t m (wipeE (fzE σ) vs) ds [] s' else .bad
section
variable {K : PySem.W.Frag} {mg : Str → Option Value} {W : WX} {H H1 : Hp} {ρ ρ1 : List Addr} {σm σ0 : Env} {σ : L2.St} {s s1 : Sto} {A F A0 F0 f : Cnt} {Ds : Ends} {tg : Tg} {body : MS}
theorem for_core {J : It} {items : List D} (it : ItOK K mg J items H1 ρ1 f) (rel0 : Rel K mg σ0 s1 σ H1 ρ1 A0 F0) (fr0 : Fr A H H1 ρ ρ1) (n0 : Nx A F H A0 F0) (hf0 : ∀ x, 1 ≤ f x → A0 x = 0) (hfp : ∀ x, 1 ≤ f x → 1 ≤ A x ∨ 1 ≤ F x ∨ H x = none)
    (h : oS K mg W A F H ρ Ds (forR tg body items σ0 s1)) :
    ∃ W' : Nat → Nat → L2.St → Hp → Prop, (∃ m, W' 0 m σ H1) ∧ ∀ i m σ H, W' i m σ H →
      (J.stop i H ∧ Ds.nx σ H) ∨ (J.go i H ∧ ∃ N : L2.St → Hp → Prop, (∀ σ' H', N σ' H' → ∃ m', m' < m ∧ W' (i + 1) m' σ' H') ∧ ∀ x H', J.yld i H x H' → rG K mg tg x σ H' fun σ2 H2 => rS K mg W body { Ds with nx := N, ct := N, bk := Ds.nx } σ2 H2) := by
  obtain ⟨hft, G, Y, wk, st⟩ := it
  refine for_it wk (fun i σ' H' => ∃ σm' s' ρ' A' F', Rel K mg σm' s' σ' H' ρ' A' F' ∧ Fr A0 H1 H' ρ1 ρ' ∧ (∀ x, 1 ≤ A' x → 1 ≤ A0 x ∨ H1 x = none) ∧ Nx A F H A' F' ∧ oS K mg W A F H ρ Ds (forR tg body (items.drop i) σm' s'))
    ⟨σ0, s1, ρ1, A0, F0, rel0, .refl, fun x z => .inl z, n0, by simpa using h⟩ ?_ ?_ ?_
  · rintro i σ' H' _ ⟨σm', s', ρ', A', F', rel', fr', o', n', h'⟩
    exact (st A0 H' ρ' fr' fun x z => Nat.eq_zero_of_not_pos fun w => by have := hf0 x w; omega).1
  · rintro i x σ' H' H2 hi ⟨σm', s', ρ', A', F', rel', fr', o', n', h'⟩ hy
    have hit : items[i]? = some items[i] := List.getElem?_eq_getElem hi
    obtain ⟨sm, f', rp, le⟩ := (st A0 H' ρ' fr' fun x z => Nat.eq_zero_of_not_pos fun w => by have := hf0 x w; omega).2 i _ x H2 hit hy
    rw [List.drop_eq_getElem_cons hi] at h'
    unfold forR at h'
    have dj : ∀ x, 1 ≤ f' x → A' x = 0 := fun x z => by
      have := le x
      by_cases w : 1 ≤ A' x
      · rcases o' x w with u | u
        · have := hf0 x (by omega); omega
        · obtain ⟨o, ho⟩ := hft x (by omega)
          rw [u] at ho; cases ho
      · omega
    cases eb : tg.bind items[i] σm' with
    | none => simp only [eb] at h'; exact h'.elim
    | some σ1 =>
      simp only [eb] at h'
      refine ⟨σm', s', ρ', A', F', _, f', rel'.next (Fr.of_same sm) (rel'.wd.same sm), rp, dj, σ1, eb, fun σ2 A2 F2 rel2 le2 _ => ⟨σ1, s', ρ', A2, F2, rel2, ?_⟩⟩
      -- what the body's end gives
      have fin : ∀ {σ3 : Env} {s3 : Sto} {σ'' : L2.St} {H'' : Hp} {ρ'' : List Addr} {A3 F3 : Cnt}, Fr A2 H2 H'' ρ' ρ'' → Rel K mg σ3 s3 σ'' H'' ρ'' A3 F3 → Nx A2 F2 H2 A3 F3 →
          Fr A0 H1 H'' ρ1 ρ'' ∧ (∀ x, 1 ≤ A3 x → 1 ≤ A0 x ∨ H1 x = none) ∧ Nx A F H A3 F3 ∧ Fr A H H'' ρ ρ'' := fun {σ3 s3 σ'' H'' ρ'' A3 F3} fr3 rel3 n3 => by
        have e1 : Fr A0 H1 H2 ρ1 ρ' := fr'.trans (Fr.of_same (Mc := c0) sm) fun _ z => no0 z
        have e2 : Fr A0 H1 H'' ρ1 ρ'' := e1.trans fr3 fun x z => o' x (by have := le2 x; omega)
        have e3 : ∀ x, 1 ≤ A3 x → 1 ≤ A0 x ∨ H1 x = none := fun x z => by
          rcases (n3 x).1 z with w | w
          · exact o' x (by have := le2 x; omega)
          · exact .inr (e1.there x w)
        have e4 : Fr A H H2 ρ ρ' := fr0.trans e1 fun x z => (n0 x).1 z
        have e5 : Nx A F H A2 F2 := fun x => by
          have l2 := le2 x
          obtain ⟨p, q⟩ := n' x
          refine ⟨fun z => p (by omega), fun z => ?_⟩
          rcases l2.2 z with w | w
          · exact q w
          · exact hfp x (by have := le x; omega)
        exact ⟨e2, e3, e5.trans e4 n3, e4.trans fr3 fun x z => (e5 x).1 z⟩
      cases ebd : body σ1 s' with
      | bad => simp only [ebd] at h'; exact h'.elim
      | nx σ3 s3 =>
        simp only [ebd] at h'
        exact fun σ'' H'' ρ'' A3 F3 fr3 rel3 n3 => let ⟨e2, e3, e5, _⟩ := fin fr3 rel3 n3; ⟨σ3, s3, ρ'', A3, F3, rel3, e2, e3, e5, h'⟩
      | ct σ3 s3 =>
        simp only [ebd] at h'
        exact fun σ'' H'' ρ'' A3 F3 fr3 rel3 n3 => let ⟨e2, e3, e5, _⟩ := fin fr3 rel3 n3; ⟨σ3, s3, ρ'', A3, F3, rel3, e2, e3, e5, h'⟩
      | bk σ3 s3 =>
        simp only [ebd] at h'
        exact fun σ'' H'' ρ'' A3 F3 fr3 rel3 n3 => let ⟨_, _, e5, e6⟩ := fin fr3 rel3 n3; h' σ'' H'' ρ'' A3 F3 e6 rel3 e5
      | rt d s3 =>
        simp only [ebd] at h'
        intro v H'' ρ'' a3 f3 fr3 wd3 rp3 o3
        have e1 : Fr A0 H1 H2 ρ1 ρ' := fr'.trans (Fr.of_same (Mc := c0) sm) fun _ z => no0 z
        have e4 : Fr A H H2 ρ ρ' := fr0.trans e1 fun x z => (n0 x).1 z
        have e5 : Nx A F H A2 F2 := fun x => by
          have l2 := le2 x
          obtain ⟨p, q⟩ := n' x
          refine ⟨fun z => p (by omega), fun z => ?_⟩
          rcases l2.2 z with w | w
          · exact q w
          · exact hfp x (by have := le x; omega)
        exact h' v H'' ρ'' a3 f3 (e4.thenN e5 fr3) wd3 rp3 (o3.stepN e4 e5)
      | ex x σ3 s3 =>
        simp only [ebd] at h'
        exact fun cls dd σ'' H'' ρ'' A3 F3 fr3 rel3 n3 rx => let ⟨_, _, e5, e6⟩ := fin fr3 rel3 n3; h' cls dd σ'' H'' ρ'' A3 F3 e6 rel3 e5 rx
  · rintro σ' H' ⟨σm', s', ρ', A', F', rel', fr', o', n', h'⟩
    rw [List.drop_length] at h'
    exact h' σ' H' ρ' A' F' (fr0.trans fr' fun x z => (n0 x).1 z) rel' n'
theorem Rel.frzd {msk : List Bool} {Am Fm Ar F2 : Cnt} (rel : Rel K mg σm s σ H ρ A F) (r2 : EnvR K mg H ρ (frzE msk σm) σ Ar F2) (q : ∀ x, A x = Am x + Ar x ∧ Fm x ≤ F x ∧ (1 ≤ F2 x → 1 ≤ F x ∨ 1 ≤ Am x)) : Rel K mg (frzE msk σm) s σ H ρ Ar F2 ∧ Nx A F H Ar F2 :=
  ⟨⟨r2, rel.wd, fun x => by
    have s0 := rel.sep x
    have q0 := q x
    refine ⟨by omega, fun z => ?_⟩
    have := s0.2 (by omega)
    by_cases w : 1 ≤ F2 x
    · have := q0.2.2 w; omega
    · omega⟩, fun x => by
    have q0 := q x
    refine ⟨fun z => .inl (by omega), fun z => ?_⟩
    rcases q0.2.2 z with w | w
    · exact .inr (.inl w)
    · exact .inl (by omega)⟩
end
section
variable {X : Cx} {W : WX} {tge iter c : Expr} {src : Src} {tg : Tg} {body : MS} {t : T} {m : M} {ss : List Stmt} {pos : Pos}
theorem ss_for (msk : List Bool) (hp : PassesOwn (model X.prog X.w) X.A X.env X.xe) (hc : X.calm = true) (hi : SI X W false tge iter src) (hg : SG X tge tg) (hb : SSs X W ss body) (hs : ∀ x, foldedSetIterable iter X.env x = pure x := by intro _; rfl) :
    SS X W (.For tge iter ss [] pos) (mFor msk src tg body) :=
  PS.imp (ps_for hp hc hi hg hb hs) fun D σ H ⟨σm, s, ρ, A, F, rel, h⟩ => by
    obtain ⟨Am, Fm, Ar, F2, r1, r2, q⟩ := rel.mask (msk := msk)
    refine ⟨_, s, ρ, Am, Fm, r1, ?_⟩
    unfold mFor at h
    cases e : src (restr msk σm) s with
    | bad => rw [e] at h; exact h
    | ex x s1 =>
      rw [e] at h
      exact fun cls dd H' ρ' fr wd rx => h cls dd σ H' ρ' A F fr.up (rel.next fr wd) .refl rx
    | ok items s1 =>
      rw [e] at h
      intro J H1 ρ1 f fr wd it hf
      obtain ⟨rel2, n2⟩ := rel.frzd r2 q
      have ev := rel.env.there
      refine for_core it (rel2.next fr wd) fr.up n2 (fun x z => ?_) (fun x z => ?_) h
      · have q0 := q x
        have s0 := rel.sep x
        by_cases w : 1 ≤ Ar x
        · rcases (hf x z).2 with u | u | u
          · omega
          · have := s0.2 (by omega); omega
          · obtain ⟨⟨o, ho⟩, _⟩ := ev x (by omega)
            rw [u] at ho; cases ho
        · omega
      · have q0 := q x
        rcases (hf x z).2 with u | u | u
        · exact .inl (by omega)
        · exact .inr (.inl (by omega))
        · exact .inr (.inr u)
theorem ss_forP (hp : PassesOwn (model X.prog X.w) X.A X.env X.xe) (hc : X.calm = true) (hi : SI X W true tge iter src) (hg : SG X tge tg) (hb : SSs X W ss body) (hs : ∀ x, foldedSetIterable iter X.env x = pure x := by intro _; rfl) :
    SS X W (.For tge iter ss [] pos) (mForP src tg body) :=
  PS.imp (ps_for hp hc hi hg hb hs) fun D σ H ⟨σm, s, ρ, A, F, rel, h⟩ => by
    refine ⟨_, s, ρ, A, F, rel, ?_⟩
    unfold mForP at h
    cases e : src σm s with
    | bad => rw [e] at h; exact h
    | ex x s1 =>
      rw [e] at h
      exact fun cls dd H' ρ' fr wd rx => h cls dd σ H' ρ' A F fr.up (rel.next fr wd) .refl rx
    | ok items s1 =>
      rw [e] at h
      intro J H1 ρ1 f fr wd it hf
      exact for_core it (rel.next fr wd) fr.up .refl (fun x z => Bool.noConfusion (hf x z).1) (fun x z => Bool.noConfusion (hf x z).1) h
theorem ss_while (n : Nat) (hp : PassesOwn (model X.prog X.w) X.A X.env X.xe) (hc : ST X W c t) (hb : SSs X W ss body) : SS X W (.While c ss [] pos) (whileR t body n) :=
  PS.imp (ps_while hp hc hb) fun D σ H ⟨σm, s, ρ, A, F, rel, h⟩ => by
    refine ⟨fun m σ' H' => ∃ σm' s' ρ' A' F', Rel X.K X.mg σm' s' σ' H' ρ' A' F' ∧ Fr A H H' ρ ρ' ∧ Nx A F H A' F' ∧ oS X.K X.mg W A F H ρ D (whileR t body m σm' s'), ⟨n, σm, s, ρ, A, F, rel, .refl, .refl, h⟩, ?_⟩
    rintro m σ' H' ⟨σm', s', ρ', A', F', rel', fr', n', h'⟩
    cases m with
    | zero => exact h'.elim
    | succ m =>
      unfold whileR at h'
      refine ⟨σm', s', ρ', A', F', rel', ?_⟩
      cases e : t σm' s' with
      | bad => rw [e] at h'; exact h'
      | ex x s1 =>
        rw [e] at h'
        exact fun cls dd H1 ρ1 fr1 wd1 rx => h' cls dd σ' H1 ρ1 A' F' (fr'.thenN n' fr1.up) (rel'.next fr1 wd1) n' rx
      | ok b s1 =>
        rw [e, Zm.R.to_ok] at h'
        intro H1 ρ1 fr1 wd1
        have rel1 := rel'.next fr1 wd1
        have f1 : Fr A H H1 ρ ρ1 := fr'.thenN n' fr1.up
        cases b with
        | false => exact iteF (h' σ' H1 ρ1 A' F' f1 rel1 n')
        | true =>
          refine iteT ⟨fun σ2 H2 => ∃ σm2 s2 ρ2 A2 F2, Rel X.K X.mg σm2 s2 σ2 H2 ρ2 A2 F2 ∧ Fr A H H2 ρ ρ2 ∧ Nx A F H A2 F2 ∧ oS X.K X.mg W A F H ρ D (whileR t body m σm2 s2), fun σ2 H2 z => ⟨m, Nat.lt_succ_self m, z⟩, σm', s1, ρ1, A', F', rel1, ?_⟩
          rw [if_pos rfl] at h'
          cases eb : body σm' s1 with
          | bad => simp only [eb] at h'; exact h'.elim
          | nx σ3 s3 =>
            simp only [eb] at h'
            exact fun σ2 H2 ρ2 A2 F2 fr2 rel2 n2 => ⟨σ3, s3, ρ2, A2, F2, rel2, f1.thenN n' fr2, n'.trans f1 n2, h'⟩
          | ct σ3 s3 =>
            simp only [eb] at h'
            exact fun σ2 H2 ρ2 A2 F2 fr2 rel2 n2 => ⟨σ3, s3, ρ2, A2, F2, rel2, f1.thenN n' fr2, n'.trans f1 n2, h'⟩
          | bk σ3 s3 =>
            simp only [eb] at h'
            exact fun σ2 H2 ρ2 A2 F2 fr2 rel2 n2 => h' σ2 H2 ρ2 A2 F2 (f1.thenN n' fr2) rel2 (n'.trans f1 n2)
          | rt d s3 =>
            simp only [eb] at h'
            exact fun v H2 ρ2 a2 f2 fr2 wd2 rp2 o2 => h' v H2 ρ2 a2 f2 (f1.thenN n' fr2) wd2 rp2 (o2.stepN f1 n')
          | ex x σ3 s3 =>
            simp only [eb] at h'
            exact fun cls dd σ2 H2 ρ2 A2 F2 fr2 rel2 n2 rx => h' cls dd σ2 H2 ρ2 A2 F2 (f1.thenN n' fr2) rel2 (n'.trans f1 n2) rx
end
end Zm
set_option Elab.async false
set_option linter.all false
set_option maxRecDepth 100000
set_option autoImplicit false
/-! Z8: list comprehensions. -/
namespace Zm
open PySem PySem.Spec PyProof.Rows L2
abbrev W0 : WX := fun _ _ _ _ => False
section
variable {K : PySem.W.Frag} {mg : Str → Option Value} {W : WX} {H H1 H4 : Hp} {ρ ρ1 : List Addr} {σm σ0 : Env} {σ : L2.St} {s s1 : Sto} {A F A0 F0 a f a2 f2 : Cnt}
theorem Gd.add (g : Gd A F H a f) (th : ∀ x, 1 ≤ a x + f x → ∃ o, H4 x = some o) (g2 : Gd A F H4 a2 f2) (n1 : ∀ x, H4 x = none → H x = none) (ev : ∀ x, 1 ≤ A x + F x → ∃ o, H x = some o) : Gd A F H (fun x => a x + a2 x) (fun x => f x + f2 x) := fun x => by
  obtain ⟨p1, p2, p3⟩ := g x
  obtain ⟨q1, q2, q3⟩ := g2 x
  have th := th x
  have ev := ev x
  have n1 := n1 x
  dsimp only
  by_cases ha : 1 ≤ a x
  · obtain ⟨o, ho⟩ := th (by omega)
    have z2 : a2 x = 0 := Nat.eq_zero_of_not_pos fun w => by have := (q2 w).2; rw [ho] at this; cases this
    have z3 : f2 x = 0 := Nat.eq_zero_of_not_pos fun w => by
      have hn := (p2 ha).2
      rcases q3 w with z | z | z
      · obtain ⟨o', ho'⟩ := ev (by omega); rw [hn] at ho'; cases ho'
      · obtain ⟨o', ho'⟩ := ev (by omega); rw [hn] at ho'; cases ho'
      · rw [ho] at z; cases z
    have := p2 ha
    exact ⟨by omega, fun _ => ⟨by omega, this.2⟩, fun h => by omega⟩
  · refine ⟨by omega, fun h => ?_, fun h => ?_⟩
    · have z := q2 (by omega)
      have zf : f x = 0 := Nat.eq_zero_of_not_pos fun w => by obtain ⟨o, ho⟩ := th (by omega); rw [z.2] at ho; cases ho
      exact ⟨by omega, n1 z.2⟩
    · by_cases z : 1 ≤ f x
      · exact p3 z
      · rcases q3 (by omega) with y | y | y
        · exact .inl y
        · exact .inr (.inl y)
        · exact .inr (.inr (n1 y))
theorem EnvR.fz : ∀ {σm : Env} {σ : L2.St} {A F : Cnt}, EnvR K mg H ρ σm σ A F → ∃ F', EnvR K mg H ρ (fzE σm) σ c0 F' ∧ ∀ x, 1 ≤ F' x → 1 ≤ A x + F x
  | _, _, _, _, .nil a f => ⟨c0, .nil (fun _ => rfl) (fun _ => rfl), fun _ z => no0 z⟩
  | _, _, _, _, .no t => let ⟨F', r, q⟩ := EnvR.fz t; ⟨F', .no r, q⟩
  | _, _, _, _, .yes h t e1 e2 => by
    obtain ⟨F1, r1, q1⟩ := h.fz
    obtain ⟨F2, r2, q2⟩ := EnvR.fz t
    refine ⟨fun x => F1 x + F2 x, .yes r1 r2 (fun _ => rfl) (fun _ => rfl), fun x hx => ?_⟩
    have hx : 1 ≤ F1 x + F2 x := hx
    rw [e1, e2]
    by_cases z : 1 ≤ F1 x
    · have := q1 x z; omega
    · have := q2 x (by omega); omega
theorem EnvR.unset : ∀ {σm : Env} {σ : L2.St} {A F : Cnt} (i : Nat), EnvR K mg H ρ σm σ A F → ∃ A' F', EnvR K mg H ρ (σm.set i none) (σ.set i none) A' F' ∧ ∀ x, A' x ≤ A x ∧ F' x ≤ F x
  | _, _, A, F, i, .nil a f => ⟨A, F, .nil a f, fun _ => ⟨Nat.le_refl _, Nat.le_refl _⟩⟩
  | _, _, A, F, 0, .no t => ⟨A, F, .no t, fun _ => ⟨Nat.le_refl _, Nat.le_refl _⟩⟩
  | _, _, A, F, i + 1, .no t => let ⟨A', F', r, q⟩ := EnvR.unset i t; ⟨A', F', .no r, q⟩
  | _, _, A, F, 0, .yes h t e1 e2 => ⟨_, _, .no t, fun x => by rw [e1, e2]; omega⟩
  | _, _, A, F, i + 1, .yes h t e1 e2 => by
    obtain ⟨A', F', r, q⟩ := EnvR.unset i t
    exact ⟨_, _, .yes h r (fun _ => rfl) (fun _ => rfl), fun x => by have := q x; rw [e1, e2]; omega⟩
theorem EnvR.wipe : ∀ {vs : List Nat}, EnvR K mg H ρ σm σ A F → ∃ A' F', EnvR K mg H ρ (wipeE σm vs) (L2.wipe σ vs) A' F' ∧ ∀ x, A' x ≤ A x ∧ F' x ≤ F x
  | [], h => ⟨A, F, h, fun _ => ⟨Nat.le_refl _, Nat.le_refl _⟩⟩
  | v :: vs, h => by
    obtain ⟨A', F', r, q⟩ := EnvR.wipe (vs := vs) h
    obtain ⟨A2, F2, r2, q2⟩ := r.unset v
    exact ⟨A2, F2, r2, fun x => by have := q x; have := q2 x; omega⟩
theorem wipe_get {σ : L2.St} {j : Nat} : ∀ {vs : List Nat}, (L2.wipe σ vs)[j]? = if j < σ.length then (if j ∈ vs then some none else σ[j]?) else none
  | [] => by
    unfold L2.wipe
    by_cases h : j < σ.length
    · rw [if_pos h, if_neg (by simp)]
    · rw [if_neg h]; simp; omega
  | v :: vs => by
    unfold L2.wipe
    rw [List.getElem?_set]
    by_cases h : j < σ.length
    · rw [if_pos h]
      by_cases e : v = j
      · subst e
        rw [if_pos rfl, if_pos (by rw [wipe_length]; exact h), if_pos (by simp)]
      · rw [if_neg e, wipe_get (vs := vs), if_pos h]
        by_cases m : j ∈ vs
        · rw [if_pos m, if_pos (by simp [m])]
        · rw [if_neg m, if_neg (by simp [m]; exact fun z => e z.symm)]
    · rw [if_neg h]
      split
      · rename_i e; subst e
        rw [if_neg (by rw [wipe_length]; exact h)]
      · rw [wipe_get (vs := vs), if_neg h]
theorem wipe_chg {σ σ' : L2.St} {ss vs : List Nat} (h : Chg ss (L2.wipe σ vs) σ') (hs : ∀ j ∈ ss, j ∈ vs) : L2.wipe σ' vs = L2.wipe σ vs := by
  apply List.ext_getElem?
  intro j
  have hl : σ'.length = σ.length := by rw [h.1, wipe_length]
  rw [wipe_get, wipe_get, hl]
  by_cases hj : j < σ.length
  · rw [if_pos hj, if_pos hj]
    by_cases m : j ∈ vs
    · rw [if_pos m, if_pos m]
    · rw [if_neg m, if_neg m, h.2 j fun z => m (hs j z), wipe_get, if_pos hj, if_neg m]
  · rw [if_neg hj, if_neg hj]
/-- a list of our own, kept apart, is written -/
theorem wd_upd {p : Addr} {l l' : List V} (wd : Wd K mg ρ s H) (hp : H p = some (.lst l)) (hn : p ∉ ρ) : Wd K mg ρ s (upd H p (.lst l')) ∧ Fr (cp p) H (upd H p (.lst l')) ρ ρ := by
  have fr : Fr (cp p) H (upd H p (.lst l')) ρ ρ := by
    refine ⟨fun x o q => ?_, fun x q => ?_, [], by simp, by simp⟩
    · by_cases z : x = p
      · subst z
        rw [hp] at q; cases q
        exact .inr ⟨⟨_, rfl⟩, .inr (by rw [cp_same]; omega)⟩
      · rw [upd_ne z]; exact .inl q
    · by_cases z : x = p
      · subst z; rw [upd_same] at q; cases q
      · rw [upd_ne z] at q; exact q
  refine ⟨⟨wd.len, wd.nd, fun n b ys z1 z2 => ?_⟩, fr⟩
  obtain ⟨w1, ws, a, f, w2, w3⟩ := wd.at_ n b ys z1 z2
  have nb : b ≠ p := fun z => hn (z ▸ List.mem_of_getElem? z1)
  have zz := w3.plain w1
  exact ⟨w1, ws, a, f, by rw [upd_ne nb]; exact w2, w3.frame fr fun x _ => zz x⟩
end
section
variable {K : PySem.W.Frag} {mg : Str → Option Value} {W : WX} {H : Hp} {σ : L2.St} {src : Src} {tg : Tg} {vs : List Nat} {t : T} {m : M} {z : Bool}
theorem rE_lc {Q : VK} (h : rE K mg W (mLc src tg vs t m) σ H Q) : tLc (rI K mg W false src) (rG K mg tg) (rT K mg W0 t) (rE K mg W0 m) vs σ H Q := by
  obtain ⟨σm, s, ρ, A, F, rel, h⟩ := h
  refine ⟨σm, s, ρ, A, F, rel, ?_⟩
  unfold mLc at h
  cases e : src σm s with
  | bad => rw [e] at h; exact h
  | ex x s1 => rw [e] at h; exact h
  | ok items s1 =>
    rw [e, Zm.R.bind_ok] at h
    intro J H1 ρ1 f fr wd it hf Da hDa
    by_cases hw : tg.within vs = true
    rotate_left
    · rw [if_neg hw] at h; exact h.elim
    rw [if_pos hw] at h
    have hss : ∀ j ∈ tg.slots, j ∈ vs := fun j hj => by
      unfold Tg.within at hw
      have := List.all_eq_true.mp hw j hj
      simpa using this
    obtain ⟨hft, G, Y, wk, st⟩ := it
    have rel1 := rel.next fr wd
    have sm0 : Same H1 (upd H1 Da (.lst [])) := same_upd hDa
    have nD : Da ∉ ρ1 := fun z => by obtain ⟨l, q⟩ := wd.lst z; rw [hDa] at q; cases q
    have fD : f Da = 0 := Nat.eq_zero_of_not_pos fun w => by obtain ⟨o, ho⟩ := hft Da w; rw [hDa] at ho; cases ho
    obtain ⟨Fz, envz, hFz⟩ := rel1.env.fz
    obtain ⟨Aw, Fw, envw, hw2⟩ := envz.wipe (vs := vs)
    have zAw : ∀ x, Aw x = 0 := fun x => by have := (hw2 x).1; have z0 : c0 x = 0 := rfl; omega
    have FwD : Fw Da = 0 := Nat.eq_zero_of_not_pos fun w => by
      have := hFz Da (by have := (hw2 Da).2; omega)
      obtain ⟨⟨o, ho⟩, _⟩ := rel1.env.there Da this
      rw [hDa] at ho; cases ho
    let F1 : Cnt := fun x => F x + f x
    have ev1 : ∀ x, 1 ≤ A x + F1 x → ∃ o, H1 x = some o := fun x z => by
      have z : 1 ≤ A x + (F x + f x) := z
      by_cases w : 1 ≤ f x
      · exact hft x w
      · exact (rel1.env.there x (by omega)).1
    refine lc_it wk (fun i H' => ∃ s' ρ' acc vs' a f', Fr (cp Da) (upd H1 Da (.lst [])) H' ρ1 ρ' ∧ Wd K mg ρ' s' H' ∧ H' Da = some (.lst vs') ∧ Da ∉ ρ' ∧ Reps K mg H' ρ' acc vs' a f' ∧ Gd A F1 H1 a f' ∧ a Da = 0 ∧ f' Da = 0 ∧ oE K mg W σ A F H ρ Q (lcR tg t m (wipeE (fzE σm) vs) (items.drop i) acc s'))
      ⟨s1, ρ1, [], [], c0, c0, .refl, wd.same sm0, upd_same, nD, .nil (fun _ => rfl) (fun _ => rfl), .zero (fun _ => rfl) (fun _ => rfl), rfl, rfl, by simpa using h⟩ ?_ ?_ ?_
    · rintro i H' _ ⟨s', ρ', acc, vs', a, f', fr', _⟩
      have fr2 : Fr (cp Da) H1 H' ρ1 ρ' := Fr.trans (Fr.of_same (Mc := cp Da) sm0) fr' fun x z => .inl z
      exact (st (cp Da) H' ρ' fr2 fun x z => by
        by_cases w : x = Da
        · rw [w]; exact fD
        · rw [cp_ne w] at z; omega).1
    · rintro i x H' H2 hi ⟨s', ρ', acc, vs', a, f', fr', wd', hD', nD', rps, gd, aD, fD', h'⟩ hy
      have fr2 : Fr (cp Da) H1 H' ρ1 ρ' := Fr.trans (Fr.of_same (Mc := cp Da) sm0) fr' fun x z => .inl z
      have hit : items[i]? = some items[i] := List.getElem?_eq_getElem hi
      obtain ⟨sm, f2, rp, le⟩ := (st (cp Da) H' ρ' fr2 fun x z => by
        by_cases w : x = Da
        · rw [w]; exact fD
        · rw [cp_ne w] at z; omega).2 i _ x H2 hit hy
      rw [List.drop_eq_getElem_cons hi] at h'
      unfold lcR at h'
      cases eb : tg.bind items[i] (wipeE (fzE σm) vs) with
      | none => simp only [eb] at h'; exact h'.elim
      | some σ1 =>
        simp only [eb] at h'
        have env2 : EnvR K mg H2 ρ' (wipeE (fzE σm) vs) (L2.wipe σ vs) Aw Fw := ((envw.frame fr2 fun x z => ⟨zAw x, by
          by_cases w : x = Da
          · rw [w]; exact FwD
          · rw [cp_ne w] at z; omega⟩)).frame (Fr.of_same (Mc := c0) sm) fun _ z => no0 z
        have relw : Rel K mg (wipeE (fzE σm) vs) s' (L2.wipe σ vs) H2 ρ' Aw Fw := ⟨env2, wd'.same sm, fun x => ⟨by have := zAw x; omega, fun z => by have := zAw x; omega⟩⟩
        refine ⟨_, s', ρ', Aw, Fw, _, f2, relw, rp, fun x _ => zAw x, σ1, eb, fun σ2 A2 F2 rel2 le2 ch => ⟨wipe_chg ch hss, ?_⟩⟩
        have zA2 : ∀ x, A2 x = 0 := fun x => by have := (le2 x).1; have := zAw x; omega
        have F2s : ∀ x, 1 ≤ F2 x → 1 ≤ A x ∨ 1 ≤ F1 x := fun x z => by
          rcases (le2 x).2 z with w | w
          · have := hFz x (by have := (hw2 x).2; omega)
            by_cases u : 1 ≤ A x
            · exact .inl u
            · exact .inr (show 1 ≤ F x + f x by omega)
          · exact .inr (show 1 ≤ F x + f x by have := le x; omega)
        have F2D : F2 Da = 0 := Nat.eq_zero_of_not_pos fun w => by
          rcases (le2 Da).2 w with u | u
          · omega
          · have := le Da; omega
        refine ⟨σ1, s', ρ', A2, F2, rel2, ?_⟩
        have hD2 : H2 Da = some (.lst vs') := sm _ _ hD'
        cases et : t σ1 s' with
        | bad => simp only [et] at h'; exact h'.elim
        | ex y s3 => simp only [et] at h'; exact h'.elim
        | ok b s3 =>
          simp only [et] at h'
          intro H4 ρ4 fr4 wd4
          have hD4 : H4 Da = some (.lst vs') := by
            rcases fr4.keep _ _ hD2 with y | ⟨_, y | y⟩
            · exact y
            · exact (nD' y).elim
            · exact no0 y
          have frA : Fr (cp Da) (upd H1 Da (.lst [])) H4 ρ1 ρ4 := (fr'.trans (Fr.of_same (Mc := c0) sm) fun _ z => no0 z).trans fr4 fun _ z => no0 z
          have rps4 : Reps K mg H4 ρ4 acc vs' a f' := (rps.sm sm).on fr4
          cases b with
          | false => exact iteF ⟨s3, ρ4, acc, vs', a, f', frA, wd4, hD4, fr4.nmem hD2 nD', rps4, gd, aD, fD', by simpa using h'⟩
          | true =>
            refine iteT ⟨σ1, s3, ρ4, A2, F2, rel2.next fr4 wd4, ?_⟩
            rw [if_pos rfl] at h'
            cases em : m σ1 s3 with
            | bad => simp only [em] at h'; exact h'.elim
            | ex y s5 => simp only [em] at h'; exact h'.elim
            | ok xd s5 =>
              simp only [em] at h'
              intro v H5 ρ5 a5 f5 fr5 wd5 rp5 g5
              split at h'
              · rename_i hz
                have hD5 : H5 Da = some (.lst vs') := by
                  rcases fr5.keep _ _ hD4 with y | ⟨_, y | y⟩
                  · exact y
                  · exact (fr4.nmem hD2 nD' y).elim
                  · exact no0 y
                have nD5 : Da ∉ ρ5 := fr5.nmem hD4 (fr4.nmem hD2 nD')
                obtain ⟨wd6, fr6⟩ := wd_upd (l' := vs' ++ [v]) wd5 hD5 nD5
                have a5D : a5 Da = 0 := Nat.eq_zero_of_not_pos fun w => by have := ((g5 Da).2.1 w).2; rw [hD4] at this; cases this
                have f5D : f5 Da = 0 := Nat.eq_zero_of_not_pos fun w => by
                  rcases (g5 Da).2.2 w with u | u | u
                  · have := zA2 Da; omega
                  · omega
                  · rw [hD4] at u; cases u
                have off : ∀ {a f : Cnt}, a Da = 0 → f Da = 0 → ∀ x, 1 ≤ cp Da x → a x = 0 ∧ f x = 0 := fun h1 h2 x z => by
                  by_cases w : x = Da
                  · rw [w]; exact ⟨h1, h2⟩
                  · rw [cp_ne w] at z; omega
                have g5' : Gd A F1 H4 a5 f5 := fun x => ⟨(g5 x).1, (g5 x).2.1, fun w => by
                  rcases (g5 x).2.2 w with u | u | u
                  · have := zA2 x; omega
                  · exact (F2s x u).elim .inl fun u => .inr (.inl u)
                  · exact .inr (.inr u)⟩
                refine ⟨vs', hD5, by rw [← rps.length]; exact hz, s5, ρ5, acc ++ [xd], vs' ++ [v], _, _, ?_, wd6, upd_same, nD5, ((rps4.on fr5).frame fr6 (off aD fD')).append (Reps.one (rp5.frame fr6 (off a5D f5D))), ?_, ?_, ?_, h'⟩
                · exact (frA.trans fr5 fun _ z => no0 z).trans fr6 fun x z => .inl z
                · exact gd.add (fun x z => (rps4.there x z).1) g5' (fun x z => by have := frA.there x z; by_cases w : x = Da; (rw [w]; exact hDa); (rw [upd_ne w] at this; exact this)) ev1
                · show a Da + a5 Da = 0; omega
                · show f' Da + f5 Da = 0; omega
              · exact h'.elim
    · rintro H' ⟨s', ρ', acc, vs', a, f', fr', wd', hD', nD', rps, gd, aD, fD', h'⟩
      rw [List.drop_length] at h'
      have fr2 : Fr c0 H1 H' ρ1 ρ' := by
        refine ⟨fun x o q => ?_, fun x q => ?_, fr'.ext.imp fun r ⟨e, n⟩ => ⟨e, fun p hp => ?_⟩⟩
        · rcases fr'.keep x o (sm0 x o q) with y | ⟨l, y | y⟩
          · exact .inl y
          · exact .inr ⟨l, .inl y⟩
          · by_cases w : x = Da
            · rw [w, hDa] at q; cases q
            · rw [cp_ne w] at y; omega
        · have := fr'.there x q
          exact sm0.free this
        · exact sm0.free (n p hp)
      refine h' (.ref Da) H' ρ' (fun x => cp Da x + a x) f' (fr.tr fr2) wd' (.own hD' nD' rps (fun _ => rfl)) fun x => ?_
      obtain ⟨g1, g2, g3⟩ := gd x
      have g3' : 1 ≤ f' x → 1 ≤ A x ∨ 1 ≤ F x ∨ H x = none := fun z => by
        rcases g3 z with w | w | w
        · exact .inl w
        · have w : 1 ≤ F x + f x := w
          by_cases u : 1 ≤ F x
          · exact .inr (.inl u)
          · exact (hf x (by omega)).2
        · exact .inr (.inr (fr.there x w))
      dsimp only
      by_cases w : x = Da
      · subst w
        rw [cp_same]
        exact ⟨by omega, fun _ => ⟨fD', fr.there _ hDa⟩, g3'⟩
      · rw [cp_ne w]
        exact ⟨by omega, fun z => ⟨(g2 (by omega)).1, fr.there x (g2 (by omega)).2⟩, g3'⟩
end
section
variable {X : Cx} {W : WX} {tge iter elt c : Expr} {ifs : List Expr} {src : Src} {tg : Tg} {t : T} {m : M} {pos : Pos} {scope : Scope} {own : List (Str × Nat)}
def STs (X : Cx) (W : WX) (es : List Expr) (t : T) : Prop := PTs X es (rT X.K X.mg W t)
theorem sts_nil : STs X W [] tTrue := ⟨fun pins s σ H Q I ⟨σm, s', ρ, A, F, rel, h⟩ => pts_nil.run pins s σ H Q I (h H ρ .refl rel.wd)⟩
theorem sts_one (h : ST X W c t) : STs X W [c] t := pts_one h
theorem s_lc (hc : X.calm = true) (nd : X.N.Nodup) (hi : SI X W false tge iter src) (ok : BlkOk X.N X.env.scope scope own)
    (hg : ∀ (s : Shared) (H : Hp) (C : Addr) (cl : List (Str × Addr)) (fp : List Addr), SG (X.blk s H scope (compEnvC scope cl C X.env) fp) tge tg)
    (ht : ∀ (s : Shared) (H : Hp) (C : Addr) (cl : List (Str × Addr)) (fp : List Addr), STs (X.blk s H scope (compEnvC scope cl C X.env) fp) W0 ifs t)
    (he : ∀ (s : Shared) (H : Hp) (C : Addr) (cl : List (Str × Addr)) (fp : List Addr), SE (X.blk s H scope (compEnvC scope cl C X.env) fp) W0 elt m) (hs : ∀ x, foldedSetIterable iter X.env x = pure x := by intro _; rfl) :
    SE X W (.ListComp elt [⟨tge, iter, ifs, 0⟩] scope pos) (mLc src tg (own.map (·.2)) t m) :=
  PE.imp (pe_lc (g := rG X.K X.mg tg) (tt := rT X.K X.mg W0 t) (te := rE X.K X.mg W0 m) hc nd hi ok hg ht he hs) fun σ H Q h => rE_lc h
theorem SI.weak (h : SI X W true tge iter src) : SI X W false tge iter src := PI.imp h fun σ H Q ⟨σm, s, ρ, A, F, rel, q⟩ => by
  refine ⟨σm, s, ρ, A, F, rel, ?_⟩
  cases e : src σm s with
  | bad => rw [e] at q; exact q
  | ex x s1 => rw [e] at q; exact q
  | ok ds s1 => rw [e] at q; exact fun J H' ρ' f a b c d => q J H' ρ' f a b c fun x z => Bool.noConfusion (d x z).1
end
end Zm
set_option Elab.async false
set_option linter.all false
set_option maxRecDepth 100000
set_option autoImplicit false
/-! Z9: what is walked: lists, tuples, ranges, zip, enumerate, reversed. -/
namespace Zm
open PySem PySem.Spec PyProof.Rows L2
def itemsOf : D → Option (List D)
  | .lst _ xs => some (fzs xs)
  | .tup xs => some (fzs xs)
  | .ro ns => some (ns.map .int)
  | _ => none
/-- the signs of a text -/
def signs (z : Str) : List D := z.cps.toList.map fun c => .str ⟨#[c]⟩
def iSeq (m : M) : Src := fun σ s => (m σ s).bind fun d s' => match d with
  | .str z => .ok (signs z) s'
  | d => R.of (itemsOf d) s'
def zip2 (xs ys : List D) : List D := List.zipWith (fun x y => .tup [x, y]) xs ys
def zip3 : List D → List D → List D → List D
  | x :: xs, y :: ys, z :: zs => .tup [x, y, z] :: zip3 xs ys zs
  | _, _, _ => []
def iZip2 (ms : List M) : Src := fun σ s => (mArgs ms σ s).bind fun ds s' => match ds with
  | [a, b] => (match itemsOf a, itemsOf b with
    | some xs, some ys => .ok (zip2 xs ys) s'
    | _, _ => .bad)
  | _ => .bad
def iZip3 (ms : List M) : Src := fun σ s => (mArgs ms σ s).bind fun ds s' => match ds with
  | [a, b, c] => (match itemsOf a, itemsOf b, itemsOf c with
    | some xs, some ys, some zs => .ok (zip3 xs ys zs) s'
    | _, _, _ => .bad)
  | _ => .bad
def enumF : Nat → List D → List D
  | _, [] => []
  | n, x :: xs => .tup [.int (n : Nat), x] :: enumF (n + 1) xs
def iEnum (m : M) : Src := fun σ s => (m σ s).bind fun d s' => match itemsOf d with
  | some xs => .ok (enumF 0 xs) s'
  | none => .bad
def iRev (m : M) : Src := fun σ s => (m σ s).bind fun d s' => match itemsOf d with
  | some xs => .ok xs.reverse s'
  | none => .bad
theorem zip3_length : ∀ xs ys zs : List D, (zip3 xs ys zs).length = min xs.length (min ys.length zs.length)
  | x :: xs, y :: ys, z :: zs => by simp only [zip3, List.length_cons, zip3_length xs ys zs]; omega
  | [], _, _ => by simp [zip3]
  | _ :: _, [], _ => by simp [zip3]
  | _ :: _, _ :: _, [] => by simp [zip3]
theorem zip3_get : ∀ (xs ys zs : List D) (i : Nat) (d : D), (zip3 xs ys zs)[i]? = some d → ∃ x y z, xs[i]? = some x ∧ ys[i]? = some y ∧ zs[i]? = some z ∧ d = .tup [x, y, z]
  | x :: xs, y :: ys, z :: zs, 0, d, h => by simp [zip3] at h; exact ⟨x, y, z, rfl, rfl, rfl, h.symm⟩
  | x :: xs, y :: ys, z :: zs, i + 1, d, h => by simpa using zip3_get xs ys zs i d (by simpa [zip3] using h)
  | [], _, _, _, _, h => by simp [zip3] at h
  | _ :: _, [], _, _, _, h => by simp [zip3] at h
  | _ :: _, _ :: _, [], _, _, h => by simp [zip3] at h
theorem enumF_length : ∀ (n : Nat) (xs : List D), (enumF n xs).length = xs.length
  | _, [] => rfl
  | n, x :: xs => by simp [enumF, enumF_length (n + 1) xs]
theorem enumF_get : ∀ (n : Nat) (xs : List D) (i : Nat) (d : D), (enumF n xs)[i]? = some d → ∃ x, xs[i]? = some x ∧ d = .tup [.int ((n + i : Nat) : Int), x]
  | n, [], i, d, h => by simp [enumF] at h
  | n, x :: xs, 0, d, h => by simp [enumF] at h; exact ⟨x, rfl, h.symm⟩
  | n, x :: xs, i + 1, d, h => by
    obtain ⟨y, e1, e2⟩ := enumF_get (n + 1) xs i d (by simpa [enumF] using h)
    exact ⟨y, by simpa using e1, by rw [e2, show n + 1 + i = n + (i + 1) by omega]⟩
section
variable {K : PySem.W.Frag} {mg : Str → Option Value} {H : Hp} {ρ : List Addr}
theorem reps_ints : ∀ ns : List Int, Reps K mg H ρ (ns.map D.int) (ns.map V.int) c0 c0
  | [] => .nil (fun _ => rfl) (fun _ => rfl)
  | n :: ns => .cons (.int (fun _ => rfl) (fun _ => rfl)) (reps_ints ns) (A := c0) (F := c0) (a := c0) (f := c0) (fun _ => rfl) (fun _ => rfl)
/-- a row that is walked -/
theorem sq_of {d : D} {xs : List D} {v : V} {a f : Cnt} (e : itemsOf d = some xs) (r : Rep K mg H ρ d v a f) : ∃ (b : Bool) (p : Addr) (vs : List V) (f' : Cnt), v = .ref p ∧ Zi.Sq K b H p vs ∧ Reps K mg H ρ xs vs c0 f' ∧ (∀ x, 1 ≤ f' x → ∃ o, H x = some o) ∧
    (b = true → ∃ ds, d = .tup ds) ∧ (b = false → (∃ o ds, d = .lst o ds) ∨ ∃ ns, d = .ro ns) ∧ ∃ g : Cnt, (∀ x, f' x ≤ g x) ∧ (∀ x, 1 ≤ g x → 1 ≤ a x + f x) ∧ ∀ (Mc : Cnt) (H1 : Hp) (ρ1 : List Addr), Fr Mc H H1 ρ ρ1 → (∀ x, 1 ≤ Mc x → g x = 0) → Zi.Sq K b H1 p vs := by
  obtain ⟨f2, r2, q⟩ := r.fz
  cases d <;> simp only [itemsOf, Option.some.injEq, reduceCtorEq] at e
  · subst e
    cases r2 with
    | tup h t => exact ⟨true, _, _, _, rfl, SqT.of h, t, fun x z => (t.there x (by omega)).1, fun _ => ⟨_, rfl⟩, fun z => Bool.noConfusion z, f2, fun _ => Nat.le_refl _, q, fun Mc H1 ρ1 fr _ => SqT.of (fr.rdT h)⟩
  · subst e
    cases r2 with
    | frz h hp t e =>
      refine ⟨false, _, _, _, rfl, SqL.of h, t, fun x z => (t.there x (by omega)).1, fun z => Bool.noConfusion z, fun _ => .inl ⟨_, _, rfl⟩, f2, fun x => by rw [e]; omega, q, fun Mc H1 ρ1 fr hm => ?_⟩
      rcases fr.keep _ _ h with z | ⟨_, z | z⟩
      · exact SqL.of z
      · exact (hp z).elim
      · have := hm _ z; rw [e, cp_same] at this; omega
  · subst e
    cases r2 with
    | ro h z1 z2 =>
      refine ⟨false, _, _, c0, rfl, h.L, ?_, fun x z => no0 z, fun z => Bool.noConfusion z, fun _ => .inr ⟨_, rfl⟩, c0, fun _ => Nat.le_refl _, fun _ z => no0 z, fun Mc H1 ρ1 fr _ => (fr.rdR h).L⟩
      exact reps_ints _
theorem sq_list {b : Bool} {p : Addr} {vs : List V} (h : Zi.Sq K b H p vs) (hb : b = false) : SqL K H p vs := by subst hb; exact h
theorem sq_tup {b : Bool} {p : Addr} {vs : List V} (h : Zi.Sq K b H p vs) (hb : b = true) : SqT K H p vs := by subst hb; exact h
/-- ItOK for one row -/
theorem it_row {J : It} {ds : List D} {vs : List V} {f g : Cnt} {S : Hp → Prop} (t : Reps K mg H ρ ds vs c0 f) (le : ∀ x, f x ≤ g x) (th : ∀ x, 1 ≤ g x → ∃ o, H x = some o) (stay : ∀ (Mc : Cnt) (H1 : Hp) (ρ1 : List Addr), Fr Mc H H1 ρ ρ1 → (∀ x, 1 ≤ Mc x → g x = 0) → S H1)
    (wk : Walk J vs.length S (YAt vs)) : ItOK K mg J ds H ρ g := by
  refine ⟨th, S, YAt vs, by rw [t.length]; exact wk, fun Mc H1 ρ1 fr hm => ⟨stay Mc H1 ρ1 fr hm, fun i d x H2 e y => ?_⟩⟩
  obtain ⟨rfl, hx⟩ := y
  have t1 := t.frame fr fun x hx => ⟨rfl, by have := hm x hx; have := le x; omega⟩
  obtain ⟨v, a', f2, e2, rp, le2⟩ := t1.at e
  rw [e2] at hx; cases hx
  have za : a' = c0 := funext fun x => by have := (le2 x).1; have z0 : c0 x = 0 := rfl; omega
  subst za
  exact ⟨fun _ _ h => h, f2, rp, fun x => by have := (le2 x).2; have := le x; omega⟩
theorem g_there {d : D} {v : V} {a f g : Cnt} (r : Rep K mg H ρ d v a f) (q : ∀ x, 1 ≤ g x → 1 ≤ a x + f x) : ∀ x, 1 ≤ g x → ∃ o, H x = some o := fun x z => (r.there x (q x z)).1
theorem gd_src {A F a f g : Cnt} {H0 : Hp} (gd : Gd A F H0 a f) (q : ∀ x, 1 ≤ g x → 1 ≤ a x + f x) : ∀ x, 1 ≤ g x → false = false ∧ (1 ≤ A x ∨ 1 ≤ F x ∨ H0 x = none) := fun x z => ⟨rfl, by
  obtain ⟨p1, p2, p3⟩ := gd x
  have := q x z
  by_cases w : 1 ≤ a x
  · exact .inr (.inr (p2 w).2)
  · exact p3 (by omega)⟩
theorem Reps.rev_get {ds : List D} {vs : List V} {A F : Cnt} {i : Nat} {d : D} (h : Reps K mg H ρ ds vs A F) (e : ds.reverse[i]? = some d) : ∃ v a f, vs.reverse[i]? = some v ∧ Rep K mg H ρ d v a f ∧ ∀ x, a x ≤ A x ∧ f x ≤ F x := (Reps.reverse h).at e
end
section
variable {X : Cx} {W : WX} {tge e e2 e3 : Expr} {m ma mb mc : M} {ms : List M} {es : List Expr} {p pos tpos : Pos} {elts : List Expr} {kk : Nat}
theorem si_seq (he : SE X W e m) : SI X W false tge e (iSeq m) := by
  constructor
  intro pins s0 σ H R I ⟨σm, s, ρ, A, F, rel, h⟩
  unfold iSeq at h
  have key : ∀ (Q : VK), oE X.K X.mg W σ A F H ρ Q (m σm s) → rE X.K X.mg W m σ H Q := fun Q q => ⟨σm, s, ρ, A, F, rel, q⟩
  cases em : m σm s with
  | bad => rw [em] at h; exact h.elim
  | ex x s1 =>
    rw [em] at h
    exact (pi_list he).run pins s0 σ H R I (key _ (by rw [em]; exact h))
  | ok d s1 =>
    rw [em, Zm.R.bind_ok] at h
    cases d with
    | str z =>
      refine (pi_str he).run pins s0 σ H R I (key _ ?_)
      rw [em]
      intro v H1 ρ1 a f fr wd rp gd
      cases rp
      refine ⟨z, rfl, h _ H1 ρ1 c0 fr wd ?_ fun x w => no0 w⟩
      refine ⟨fun _ hx => no0 hx, _, _, by unfold signs; rw [List.length_map, Array.length_toList]; exact walk_str, fun Mc H2 ρ2 fr2 hm => ⟨trivial, fun i d x H3 e y => ?_⟩⟩
      obtain ⟨rfl, c, ec, rfl⟩ := y
      unfold signs at e
      simp [ec] at e
      subst e
      exact ⟨fun _ _ h => h, c0, .str (fun _ => rfl) (fun _ => rfl), fun _ => Nat.le_refl _⟩
    | lst o ds =>
      refine (pi_list he).run pins s0 σ H R I (key _ ?_)
      rw [em]
      intro v H1 ρ1 a f fr wd rp gd
      obtain ⟨b, p, vs, f', ev, sq, t, th, b1, b2, g, le, q, stay⟩ := sq_of (xs := fzs ds) rfl rp
      have hb : b = false := by cases b with
        | false => rfl
        | true => obtain ⟨_, z⟩ := b1 rfl; cases z
      subst hb
      exact ⟨p, ev, ⟨vs, sq⟩, h _ H1 ρ1 g fr wd (it_row t le (g_there rp q) stay walk_list) (gd_src gd q)⟩
    | ro ns =>
      refine (pi_list he).run pins s0 σ H R I (key _ ?_)
      rw [em]
      intro v H1 ρ1 a f fr wd rp gd
      obtain ⟨b, p, vs, f', ev, sq, t, th, b1, b2, g, le, q, stay⟩ := sq_of (xs := ns.map D.int) rfl rp
      have hb : b = false := by cases b with
        | false => rfl
        | true => obtain ⟨_, z⟩ := b1 rfl; cases z
      subst hb
      exact ⟨p, ev, ⟨vs, sq⟩, h _ H1 ρ1 g fr wd (it_row t le (g_there rp q) stay walk_list) (gd_src gd q)⟩
    | tup ds =>
      refine (pi_tup he).run pins s0 σ H R I (key _ ?_)
      rw [em]
      intro v H1 ρ1 a f fr wd rp gd
      obtain ⟨b, p, vs, f', ev, sq, t, th, b1, b2, g, le, q, stay⟩ := sq_of (xs := fzs ds) rfl rp
      have hb : b = true := by cases b with
        | true => rfl
        | false => rcases b2 rfl with ⟨_, _, z⟩ | ⟨_, z⟩ <;> cases z
      subst hb
      exact ⟨p, ev, ⟨vs, sq⟩, h _ H1 ρ1 g fr wd (it_row t le (g_there rp q) stay walk_tup) (gd_src gd q)⟩
    | _ => exact h.elim
theorem inv_int {K : PySem.W.Frag} {mg : Str → Option Value} {H : Hp} {ρ : List Addr} {i : Int} {v : V} {A F : Cnt} (h : Rep K mg H ρ (.int i) v A F) : v = .int i := by cases h; rfl
theorem si_range1 (hm : X.mg "range" = none) (ha : SA X W [e] ms) (hg : Gl X "range" := by rfl) (hs : starEach [e] X.env = [(false, eval e X.env)] := by rfl) : SI X W true tge (.Call (.Name "range" p) [e] [] pos) (iR1 ms) :=
  PI.imp (pi_range1 hg hm ha hs) fun σ H R ⟨σm, s, ρ, A, F, rel, h⟩ => by
    refine ⟨σm, s, ρ, A, F, rel, ?_⟩
    unfold iR1 at h
    cases em : mArgs ms σm s with
    | bad => rw [em] at h; exact h
    | ex x s1 => rw [em] at h; exact h
    | ok ds s1 =>
      rw [em, Zm.R.bind_ok] at h
      intro vs H1 ρ1 a f fr wd rp gd
      split at h
      · split at h
        · rename_i hb
          simp only [big, decide_eq_true_eq] at hb
          obtain ⟨v, rfl, r⟩ := rp.inv1
          exact ⟨_, by rw [inv_int r], hb.1, hb.2, h _ H1 ρ1 c0 fr wd it_range fun x w => no0 w⟩
        · exact h.elim
      · exact h.elim
theorem si_range2 (hm : X.mg "range" = none) (ha : SA X W [e, e2] ms) (hg : Gl X "range" := by rfl) (hs : starEach [e, e2] X.env = [(false, eval e X.env), (false, eval e2 X.env)] := by rfl) (hs2 : starEach [e2] X.env = [(false, eval e2 X.env)] := by rfl) : SI X W true tge (.Call (.Name "range" p) [e, e2] [] pos) (iR2 ms) :=
  PI.imp (pi_range2 hg hm ha hs hs2) fun σ H R ⟨σm, s, ρ, A, F, rel, h⟩ => by
    refine ⟨σm, s, ρ, A, F, rel, ?_⟩
    unfold iR2 at h
    cases em : mArgs ms σm s with
    | bad => rw [em] at h; exact h
    | ex x s1 => rw [em] at h; exact h
    | ok ds s1 =>
      rw [em, Zm.R.bind_ok] at h
      intro vs H1 ρ1 a f fr wd rp gd
      split at h
      · split at h
        · rename_i hb
          simp only [big, decide_eq_true_eq] at hb
          obtain ⟨v, v', _, _, _, _, rfl, r, r', _⟩ := rp.inv2
          exact ⟨_, _, by rw [inv_int r, inv_int r'], ⟨hb.1.1, hb.1.2, hb.2.1, hb.2.2⟩, h _ H1 ρ1 c0 fr wd it_range fun x w => no0 w⟩
        · exact h.elim
      · exact h.elim
theorem si_range3 (hm : X.mg "range" = none) (ha : SA X W [e, e2, e3] ms) (hg : Gl X "range" := by rfl) (hs : starEach [e, e2, e3] X.env = (false, eval e X.env) :: starEach [e2, e3] X.env := by rfl) (hpl : (backTo pos (starEach [e2, e3] X.env)).any (·.1) = false := by rfl) : SI X W true tge (.Call (.Name "range" p) [e, e2, e3] [] pos) (iR3 ms) :=
  PI.imp (pi_range3 hg hm ha hs hpl) fun σ H R ⟨σm, s, ρ, A, F, rel, h⟩ => by
    refine ⟨σm, s, ρ, A, F, rel, ?_⟩
    unfold iR3 at h
    cases em : mArgs ms σm s with
    | bad => rw [em] at h; exact h
    | ex x s1 => rw [em] at h; exact h
    | ok ds s1 =>
      rw [em, Zm.R.bind_ok] at h
      intro vs H1 ρ1 a f fr wd rp gd
      split at h
      · split at h
        · rename_i hb
          simp only [big, decide_eq_true_eq] at hb
          obtain ⟨v, v', v'', _, _, _, _, _, _, rfl, r, r', r'', _⟩ := rp.inv3
          exact ⟨_, _, _, _, by rw [inv_int r, inv_int r', inv_int r'', hb.2.2], RgC.neg hb.1.1 hb.1.2 hb.2.1.1 hb.2.1.2, h _ H1 ρ1 c0 fr wd it_rangeC fun x w => no0 w⟩
        · exact h.elim
      · exact h.elim
theorem zip2_rd {σ : L2.St} {H : Hp} {R : It → Hp → Prop} (h : rI X.K X.mg W false (iZip2 ms) σ H R) : Zi.iZ2 X.K (rA X.K X.mg W (mArgs ms)) σ H R := by
    obtain ⟨σm, s, ρ, A, F, rel, h⟩ := h
    refine ⟨σm, s, ρ, A, F, rel, ?_⟩
    unfold iZip2 at h
    cases em : mArgs ms σm s with
    | bad => rw [em] at h; exact h
    | ex x s1 => rw [em] at h; exact h
    | ok ds s1 =>
      rw [em, Zm.R.bind_ok] at h
      intro vs H1 ρ1 a f fr wd rp gd
      split at h
      · split at h
        · rename_i d1 d2 xs ys e1 e2
          obtain ⟨v1, v2, a1, f1, a2, f2, rfl, r1, r2, eq⟩ := rp.inv2
          obtain ⟨b1, p1, vs1, f1', rfl, sq1, t1, th1, _, _, g1, le1, q1, st1⟩ := sq_of e1 r1
          obtain ⟨b2, p2, vs2, f2', rfl, sq2, t2, th2, _, _, g2, le2, q2, st2⟩ := sq_of e2 r2
          refine ⟨b1, b2, p1, p2, vs1, vs2, rfl, sq1, sq2, h _ H1 ρ1 (fun x => g1 x + g2 x) fr wd ⟨fun x w => ?_, fun H => Zi.Sq X.K b1 H p1 vs1 ∧ Zi.Sq X.K b2 H p2 vs2, YPair (fun i => vs1[i]?) (fun i => vs2[i]?), ?_, fun Mc H2 ρ2 fr2 hm => ?_⟩ (gd_src gd fun x w => ?_)⟩
          · have w : 1 ≤ g1 x + g2 x := w
            by_cases u : 1 ≤ g1 x
            · exact g_there r1 q1 x u
            · exact g_there r2 q2 x (by omega)
          · have hl : (zip2 xs ys).length = min vs1.length vs2.length := by unfold zip2; rw [List.length_zipWith, t1.length, t2.length]
            rw [hl]
            refine ⟨fun i H hi ⟨s1, s2⟩ => ?_, fun H ⟨s1, s2⟩ => ⟨vs1, vs2, s1, s2, by omega, by omega, by omega⟩, fun i H v H' hi ⟨s1, s2⟩ y => ?_⟩
            · exact ⟨vs1, vs2, vs1[i], vs2[i], s1, s2, List.getElem?_eq_getElem (by omega), List.getElem?_eq_getElem (by omega)⟩
            · obtain ⟨T, x, y', y1, y2, y3, y4, y5⟩ := y
              exact ⟨T, x, y', y1, y2, y3, y4 _ s1, y5 _ s2⟩
          · have hm : ∀ x, 1 ≤ Mc x → g1 x + g2 x = 0 := hm
            have h1 := st1 Mc H2 ρ2 fr2 fun x z => by have := hm x z; omega
            have h2 := st2 Mc H2 ρ2 fr2 fun x z => by have := hm x z; omega
            refine ⟨⟨h1, h2⟩, fun i d x H3 e y => ?_⟩
            obtain ⟨T, u1, u2, rfl, hT, rfl, w1, w2⟩ := y
            have w1 : vs1[i]? = some u1 := w1
            have w2 : vs2[i]? = some u2 := w2
            have t1' := t1.frame fr2 fun x hx => ⟨rfl, by have := hm x hx; have := le1 x; omega⟩
            have t2' := t2.frame fr2 fun x hx => ⟨rfl, by have := hm x hx; have := le2 x; omega⟩
            unfold zip2 at e
            rw [List.getElem?_zipWith_eq_some] at e
            obtain ⟨x1, x2, z1, z2, rfl⟩ := e
            obtain ⟨v1, a1', f3, e3, rp3, le3⟩ := t1'.at z1
            obtain ⟨v2, a2', f4, e4, rp4, le4⟩ := t2'.at z2
            rw [e3] at w1; cases w1
            rw [e4] at w2; cases w2
            have za : a1' = c0 := funext fun x => by have := (le3 x).1; have z0 : c0 x = 0 := rfl; omega
            have zb : a2' = c0 := funext fun x => by have := (le4 x).1; have z0 : c0 x = 0 := rfl; omega
            subst za zb
            exact ⟨same_upd hT, _, new_tup hT (.cons rp3 (Reps.one rp4) (fun _ => rfl) (fun _ => rfl)), fun x => by have := (le3 x).2; have := (le4 x).2; have := le1 x; have := le2 x; show f3 x + f4 x ≤ g1 x + g2 x; omega⟩
          · have w : 1 ≤ g1 x + g2 x := w
            have := eq x
            by_cases u : 1 ≤ g1 x
            · have := q1 x u; omega
            · have := q2 x (by omega); omega
        · exact h.elim
      · exact h.elim
theorem si_zip2 (hm : X.mg "zip" = none) (ha : SA X W [e, e2] ms) (hg : Gl X "zip" := by rfl) (hs : starEach [e, e2] X.env = (false, eval e X.env) :: starEach [e2] X.env := by rfl) (hpl : (backTo pos (starEach [e2] X.env)).any (·.1) = false := by rfl) :
    SI X W false (.Tuple elts kk tpos) (.Call (.Name "zip" p) [e, e2] [] pos) (iZip2 ms) :=
  PI.imp (Zi.pi_z2 hm ha hg hs hpl) fun σ H R h => zip2_rd h
theorem si_zip2N {nm : Str} (hm : X.mg "zip" = none) (ha : SA X W [e, e2] ms) (hg : Gl X "zip" := by rfl) (hs : starEach [e, e2] X.env = (false, eval e X.env) :: starEach [e2] X.env := by rfl) (hpl : (backTo pos (starEach [e2] X.env)).any (·.1) = false := by rfl) :
    SI X W false (.Name nm tpos) (.Call (.Name "zip" p) [e, e2] [] pos) (iZip2 ms) := PI.imp (Zi.pi_z2N hm ha hg hs hpl) fun σ H R h => zip2_rd h
theorem si_zip3 (hm : X.mg "zip" = none) (ha : SA X W [e, e2, e3] ms) (hg : Gl X "zip" := by rfl) (hs : starEach [e, e2, e3] X.env = (false, eval e X.env) :: starEach [e2, e3] X.env := by rfl) (hpl : (backTo pos (starEach [e2, e3] X.env)).any (·.1) = false := by rfl) :
    SI X W false (.Tuple elts kk tpos) (.Call (.Name "zip" p) [e, e2, e3] [] pos) (iZip3 ms) :=
  PI.imp (Zi.pi_z3 hm ha hg hs hpl) fun σ H R ⟨σm, s, ρ, A, F, rel, h⟩ => by
    refine ⟨σm, s, ρ, A, F, rel, ?_⟩
    unfold iZip3 at h
    cases em : mArgs ms σm s with
    | bad => rw [em] at h; exact h
    | ex x s1 => rw [em] at h; exact h
    | ok ds s1 =>
      rw [em, Zm.R.bind_ok] at h
      intro vs H1 ρ1 a f fr wd rp gd
      split at h
      · split at h
        · rename_i d1 d2 d3 xs ys zs e1 e2 e3
          obtain ⟨v1, v2, v3, a1, f1, a2, f2, a3, f3, rfl, r1, r2, r3, eq⟩ := rp.inv3
          obtain ⟨b1, p1, vs1, f1', rfl, sq1, t1, th1, _, _, g1, le1, q1, st1⟩ := sq_of e1 r1
          obtain ⟨b2, p2, vs2, f2', rfl, sq2, t2, th2, _, _, g2, le2, q2, st2⟩ := sq_of e2 r2
          obtain ⟨b3, p3, vs3, f3', rfl, sq3, t3, th3, _, _, g3, le3, q3, st3⟩ := sq_of e3 r3
          refine ⟨b1, b2, b3, p1, p2, p3, vs1, vs2, vs3, rfl, sq1, sq2, sq3, h _ H1 ρ1 (fun x => g1 x + (g2 x + g3 x)) fr wd ⟨fun x w => ?_, fun H => Zi.Sq X.K b1 H p1 vs1 ∧ Zi.Sq X.K b2 H p2 vs2 ∧ Zi.Sq X.K b3 H p3 vs3,
            fun i H v H' => ∃ T x y z, v = .ref T ∧ H T = none ∧ H' = upd H T (.tup [x, y, z]) ∧ vs1[i]? = some x ∧ vs2[i]? = some y ∧ vs3[i]? = some z, ?_, fun Mc H2 ρ2 fr2 hm => ?_⟩ (gd_src gd fun x w => ?_)⟩
          · have w : 1 ≤ g1 x + (g2 x + g3 x) := w
            by_cases u : 1 ≤ g1 x
            · exact g_there r1 q1 x u
            · by_cases u2 : 1 ≤ g2 x
              · exact g_there r2 q2 x u2
              · exact g_there r3 q3 x (by omega)
          · have hl : (zip3 xs ys zs).length = min vs1.length (min vs2.length vs3.length) := by rw [zip3_length, t1.length, t2.length, t3.length]
            rw [hl]
            refine ⟨fun i H hi ⟨s1, s2, s3⟩ => ?_, fun H ⟨s1, s2, s3⟩ => ⟨vs1, vs2, vs3, s1, s2, s3, by omega, by omega, by omega, by omega⟩, fun i H v H' hi ⟨s1, s2, s3⟩ y => ?_⟩
            · exact ⟨vs1, vs2, vs3, vs1[i], vs2[i], vs3[i], s1, s2, s3, List.getElem?_eq_getElem (by omega), List.getElem?_eq_getElem (by omega), List.getElem?_eq_getElem (by omega)⟩
            · obtain ⟨T, x, y', z', y1, y2, y3, y4, y5, y6⟩ := y
              exact ⟨T, x, y', z', y1, y2, y3, y4 _ s1, y5 _ s2, y6 _ s3⟩
          · have hm : ∀ x, 1 ≤ Mc x → g1 x + (g2 x + g3 x) = 0 := hm
            have h1 := st1 Mc H2 ρ2 fr2 fun x z => by have := hm x z; omega
            have h2 := st2 Mc H2 ρ2 fr2 fun x z => by have := hm x z; omega
            have h3 := st3 Mc H2 ρ2 fr2 fun x z => by have := hm x z; omega
            refine ⟨⟨h1, h2, h3⟩, fun i d x H3 e y => ?_⟩
            obtain ⟨T, u1, u2, u3, rfl, hT, rfl, w1, w2, w3⟩ := y
            have t1' := t1.frame fr2 fun x hx => ⟨rfl, by have := hm x hx; have := le1 x; omega⟩
            have t2' := t2.frame fr2 fun x hx => ⟨rfl, by have := hm x hx; have := le2 x; omega⟩
            have t3' := t3.frame fr2 fun x hx => ⟨rfl, by have := hm x hx; have := le3 x; omega⟩
            obtain ⟨x1, x2, x3, z1, z2, z3, rfl⟩ := zip3_get _ _ _ _ _ e
            obtain ⟨v1, a1', f4, e4, rp4, le4⟩ := t1'.at z1
            obtain ⟨v2, a2', f5, e5, rp5, le5⟩ := t2'.at z2
            obtain ⟨v3, a3', f6, e6, rp6, le6⟩ := t3'.at z3
            rw [e4] at w1; cases w1
            rw [e5] at w2; cases w2
            rw [e6] at w3; cases w3
            have za : a1' = c0 := funext fun x => by have := (le4 x).1; have z0 : c0 x = 0 := rfl; omega
            have zb : a2' = c0 := funext fun x => by have := (le5 x).1; have z0 : c0 x = 0 := rfl; omega
            have zc : a3' = c0 := funext fun x => by have := (le6 x).1; have z0 : c0 x = 0 := rfl; omega
            subst za zb zc
            refine ⟨same_upd hT, _, new_tup hT (.cons rp4 (.cons rp5 (Reps.one rp6) (A := c0) (F := fun x => f5 x + f6 x) (fun _ => rfl) (fun _ => rfl)) (A := c0) (F := fun x => f4 x + (f5 x + f6 x)) (fun _ => rfl) (fun _ => rfl)), fun x => ?_⟩
            have := (le4 x).2; have := (le5 x).2; have := (le6 x).2; have := le1 x; have := le2 x; have := le3 x
            show f4 x + (f5 x + f6 x) ≤ g1 x + (g2 x + g3 x)
            omega
          · have w : 1 ≤ g1 x + (g2 x + g3 x) := w
            have := eq x
            by_cases u : 1 ≤ g1 x
            · have := q1 x u; omega
            · by_cases u2 : 1 ≤ g2 x
              · have := q2 x u2; omega
              · have := q3 x (by omega); omega
        · exact h.elim
      · exact h.elim
theorem si_enum (hm : X.mg "enumerate" = none) (he : SE X W e m) (hg : Gl X "enumerate" := by rfl) (hs : starEach [e] X.env = [(false, eval e X.env)] := by rfl) : SI X W false (.Tuple elts kk tpos) (.Call (.Name "enumerate" p) [e] [] pos) (iEnum m) :=
  PI.imp (Zi.pi_e hm (pa_cons he pa_nil hs) hg hs) fun σ H R ⟨σm, s, ρ, A, F, rel, h⟩ => by
    refine ⟨σm, s, ρ, A, F, rel, ?_⟩
    unfold iEnum at h
    cases em : m σm s with
    | bad => rw [em] at h; exact h
    | ex x s1 => rw [em] at h; exact h
    | ok d s1 =>
      rw [em, Zm.R.bind_ok] at h
      intro v H1 ρ1 a f fr wd rp gd
      cases ei : itemsOf d with
      | none => simp only [ei] at h; exact h.elim
      | some xs =>
        simp only [ei] at h
        obtain ⟨b1, p1, vs1, f1', rfl, sq1, t1, th1, _, _, g1, le1, q1, st1⟩ := sq_of ei rp
        refine ⟨b1, p1, vs1, rfl, sq1, h _ H1 ρ1 g1 fr wd ⟨g_there rp q1, fun H => Zi.Sq X.K b1 H p1 vs1, YPair (fun i => some (.int (i : Nat))) (fun i => vs1[i]?), ?_, fun Mc H2 ρ2 fr2 hm => ?_⟩ (gd_src gd q1)⟩
        · rw [enumF_length, t1.length]
          refine ⟨fun i H hi s1 => ⟨vs1, vs1[i], s1, List.getElem?_eq_getElem hi⟩, fun H s1 => ⟨vs1, s1, rfl⟩, fun i H v H' hi s1 y => ?_⟩
          obtain ⟨T, x, y1, y2, y3, y4⟩ := y
          exact ⟨T, _, x, y1, y2, y3, rfl, y4 _ s1⟩
        · refine ⟨st1 Mc H2 ρ2 fr2 hm, fun i d x H3 e y => ?_⟩
          obtain ⟨T, u1, u2, rfl, hT, rfl, w1, w2⟩ := y
          have w1 : some (V.int (i : Nat)) = some u1 := w1
          have w2 : vs1[i]? = some u2 := w2
          cases w1
          have t1' := t1.frame fr2 fun x hx => ⟨rfl, by have := hm x hx; have := le1 x; omega⟩
          obtain ⟨x1, z1, rfl⟩ := enumF_get _ _ _ _ e
          obtain ⟨v1, a1', f4, e4, rp4, le4⟩ := t1'.at z1
          rw [e4] at w2; cases w2
          have za : a1' = c0 := funext fun x => by have := (le4 x).1; have z0 : c0 x = 0 := rfl; omega
          subst za
          have ri : Rep X.K X.mg H2 ρ2 (.int ((0 + i : Nat) : Int)) (.int ((i : Nat) : Int)) c0 c0 := by rw [Nat.zero_add]; exact .int (fun _ => rfl) (fun _ => rfl)
          exact ⟨same_upd hT, f4, new_tup hT (.cons ri (Reps.one rp4) (A := c0) (F := f4) (fun _ => rfl) (fun x => by show f4 x = 0 + f4 x; omega)), fun x => by have := (le4 x).2; have := le1 x; omega⟩
theorem si_rev (hm : X.mg "reversed" = none) (he : SE X W e m) (hg : Gl X "reversed" := by rfl) (hs : starEach [e] X.env = (false, eval e X.env) :: starEach [] X.env := by rfl) : SI X W false tge (.Call (.Name "reversed" p) [e] [] pos) (iRev m) :=
  PI.imp (RT.pi_revA hg hm he hs) fun σ H R ⟨σm, s, ρ, A, F, rel, h⟩ => by
    refine ⟨σm, s, ρ, A, F, rel, ?_⟩
    unfold iRev at h
    cases em : m σm s with
    | bad => rw [em] at h; exact h
    | ex x s1 => rw [em] at h; exact h
    | ok d s1 =>
      rw [em, Zm.R.bind_ok] at h
      intro v H1 ρ1 a f fr wd rp gd
      cases ei : itemsOf d with
      | none => simp only [ei] at h; exact h.elim
      | some xs =>
        simp only [ei] at h
        obtain ⟨b1, p1, vs1, f1', rfl, sq1, t1, th1, _, _, g1, le1, q1, st1⟩ := sq_of ei rp
        have core : ∀ {J : It} {S : Hp → Prop}, (∀ H, S H ↔ Zi.Sq X.K b1 H p1 vs1) → Walk J vs1.length S (fun i H x H' => H' = H ∧ vs1[vs1.length - 1 - i]? = some x) → ItOK X.K X.mg J xs.reverse H1 ρ1 g1 := fun {J S} hS wk => by
          refine ⟨g_there rp q1, S, _, by rw [List.length_reverse, t1.length]; exact wk, fun Mc H2 ρ2 fr2 hm => ⟨(hS _).mpr (st1 Mc H2 ρ2 fr2 hm), fun i d x H3 e y => ?_⟩⟩
          obtain ⟨rfl, hx⟩ := y
          have t1' := t1.frame fr2 fun x hx => ⟨rfl, by have := hm x hx; have := le1 x; omega⟩
          obtain ⟨v1, a1', f4, e4, rp4, le4⟩ := t1'.rev_get e
          have hi : i < vs1.length := by
            have := (List.getElem?_eq_some_iff.mp e4).1
            simpa using this
          rw [List.getElem?_reverse hi] at e4
          rw [e4] at hx; cases hx
          have za : a1' = c0 := funext fun x => by have := (le4 x).1; have z0 : c0 x = 0 := rfl; omega
          subst za
          exact ⟨fun _ _ h => h, f4, rp4, fun x => by have := (le4 x).2; have := le1 x; omega⟩
        cases b1 with
        | false =>
          refine ⟨p1, vs1, rfl, .inl ⟨sq1, h _ H1 ρ1 g1 fr wd (core (fun _ => Iff.rfl) walk_rev) (gd_src gd q1)⟩⟩
        | true =>
          refine ⟨p1, vs1, rfl, .inr ⟨sq1, h _ H1 ρ1 g1 fr wd (core (J := RT.ItvT X.K p1 vs1.length) (fun _ => Iff.rfl) ?_) (gd_src gd q1)⟩⟩
          refine ⟨fun i H hi q => ⟨hi, vs1, vs1[vs1.length - 1 - i]'(by omega), q, List.getElem?_eq_getElem (by omega)⟩, fun _ _ => Nat.le_refl _, fun i H x H' hi q y => ⟨y.1, y.2 _ q⟩⟩
end
end Zm
set_option Elab.async false
set_option linter.all false
set_option maxRecDepth 100000
set_option autoImplicit false
/-! Z10: operators, subscripts, comparisons by machine. -/
namespace Zm
open PySem PySem.Spec PyProof.Rows L2
section
variable {K : PySem.W.Frag} {mg : Str → Option Value} {H H' : Hp} {ρ : List Addr} {d e : D} {ds xs ys : List D} {v : V} {vs : List V} {a f a' f' a1 f1 : Cnt} {o : Bool}
theorem Sp1.le (h : Sp1 a f) (q : ∀ x, a1 x ≤ a x ∧ f1 x ≤ f x) : Sp1 a1 f1 := fun x => by
  have := h x; have := q x
  exact ⟨by omega, fun z => by have := (h x).2 (by omega); omega⟩
theorem Out.le (h : Out a1 f1 H a' f') (q : ∀ x, a1 x ≤ a x ∧ f1 x ≤ f x) : Out a f H a' f' := fun x => by
  obtain ⟨p1, p2, p3⟩ := h x
  have := q x
  refine ⟨p1, fun z => ⟨(p2 z).1, ?_⟩, fun z => ?_⟩
  · rcases (p2 z).2 with w | w
    · exact .inl w
    · exact .inr (by omega)
  · rcases p3 z with w | w | w
    · exact .inl (by omega)
    · exact .inr (.inl (by omega))
    · exact .inr (.inr w)
theorem inv_lst (h : Rep K mg H ρ (.lst o xs) v a f) : ∃ p vs a1 f1, v = .ref p ∧ H p = some (.lst vs) ∧ Reps K mg H ρ xs vs a1 f1 ∧ ∀ x, a1 x ≤ a x ∧ f1 x ≤ f x := by
  cases h with
  | own h _ t e => exact ⟨_, _, _, _, rfl, h, t, fun x => by rw [e]; omega⟩
  | frz h _ t e => exact ⟨_, _, _, _, rfl, h, t, fun x => by rw [e]; omega⟩
theorem inv_tup (h : Rep K mg H ρ (.tup xs) v a f) : ∃ p vs, v = .ref p ∧ H p = some (.tup vs) ∧ Reps K mg H ρ xs vs a f := by
  cases h with
  | tup h t => exact ⟨_, _, rfl, h, t⟩
theorem inv_str {z : Str} (h : Rep K mg H ρ (.str z) v a f) : v = .str z := by cases h; rfl
theorem inv_bl {b : Bool} (h : Rep K mg H ρ (.bl b) v a f) : v = .bl b := by cases h; rfl
theorem inv_non (h : Rep K mg H ρ .non v a f) : v = .non := by cases h; rfl
mutual
theorem Rep.dp : ∀ {d : D} {v : V} {a f : Cnt} {x : PyData}, pd d = some x → Rep K mg H ρ d v a f → Dp K H v x
  | .non, _, _, _, _, e, h => by cases h; cases e; exact .non
  | .bl _, _, _, _, _, e, h => by cases h; cases e; exact .bl _
  | .int _, _, _, _, _, e, h => by cases h; cases e; exact .int _
  | .str _, _, _, _, _, e, h => by cases h; cases e; exact .str _
  | .tup xs, _, _, _, _, e, h => by
    cases h with
    | tup q t =>
      rw [pd, Option.map_eq_some_iff] at e
      obtain ⟨ys, e1, rfl⟩ := e
      exact .tup (SqT.of q) (Reps.dp e1 t)
  | .lst _ xs, _, _, _, _, e, h => by
    rw [pd, Option.map_eq_some_iff] at e
    obtain ⟨ys, e1, rfl⟩ := e
    obtain ⟨p, vs, a1, f1, rfl, hp, t, _⟩ := inv_lst h
    exact .lst (SqL.of hp) (Reps.dp e1 t)
  | .ro ns, _, _, _, _, e, h => by
    cases h with
    | ro q _ _ =>
      cases e
      exact .lst q.L (ints_dp ns)
  | .dic _ _ _, _, _, _, _, e, _ => by cases e
  | .box _, _, _, _, _, e, _ => by cases e
  | .fn _, _, _, _, _, e, _ => by cases e
  | .ty _, _, _, _, _, e, _ => by cases e
  | .exc _ _, _, _, _, _, e, _ => by cases e
theorem Reps.dp : ∀ {ds : List D} {vs : List V} {a f : Cnt} {xs : List PyData}, pds ds = some xs → Reps K mg H ρ ds vs a f → DpAll K H vs xs
  | [], _, _, _, _, e, h => by cases h; cases e; exact .nil
  | d :: ds, _, _, _, _, e, h => by
    cases h with
    | cons h t _ _ =>
      rw [pds] at e
      cases e1 : pd d with
      | none => rw [e1] at e; cases e
      | some y =>
        cases e2 : pds ds with
        | none => rw [e1, e2] at e; cases e
        | some ys =>
          rw [e1, e2] at e
          cases e
          exact .cons (Rep.dp e1 h) (Reps.dp e2 t)
theorem ints_dp : ∀ ns : List Int, DpAll K H (ns.map V.int) (ns.map PyData.int)
  | [] => .nil
  | n :: ns => .cons (.int n) (ints_dp ns)
end
theorem Reps.ints : ∀ {ns : List Int} {vs : List V} {a f : Cnt}, Reps K mg H ρ (ns.map D.int) vs a f → vs = ns.map V.int
  | [], _, _, _, h => by cases h; rfl
  | n :: ns, _, _, _, h => by
    cases h with
    | cons h t _ _ => rw [inv_int h, Reps.ints t]; rfl
end
/-- ints of a list of trees -/
def toInts : List D → Option (List Int)
  | [] => some []
  | .int i :: ds => (toInts ds).map (i :: ·)
  | _ => none
theorem toInts_eq : ∀ {ds : List D} {ns : List Int}, toInts ds = some ns → ds = ns.map D.int
  | [], ns, h => by cases h; rfl
  | .int i :: ds, ns, h => by
    rw [toInts, Option.map_eq_some_iff] at h
    obtain ⟨r, e, rfl⟩ := h
    rw [toInts_eq e]; rfl
  | .non :: _, _, h => by simp [toInts] at h
  | .bl _ :: _, _, h => by simp [toInts] at h
  | .str _ :: _, _, h => by simp [toInts] at h
  | .tup _ :: _, _, h => by simp [toInts] at h
  | .lst _ _ :: _, _, h => by simp [toInts] at h
  | .dic _ _ _ :: _, _, h => by simp [toInts] at h
  | .box _ :: _, _, h => by simp [toInts] at h
  | .fn _ :: _, _, h => by simp [toInts] at h
  | .ty _ :: _, _, h => by simp [toInts] at h
  | .exc _ _ :: _, _, h => by simp [toInts] at h
  | .ro _ :: _, _, h => by simp [toInts] at h
@[simp] theorem toInts_map (ns : List Int) : toInts (ns.map D.int) = some ns := by
  induction ns with
  | nil => rfl
  | cons n ns ih => simp [toInts, ih]
/-- the list of ints that a value holds -/
def intsIn (s : Sto) : D → Option (List Int)
  | .lst _ ds => toInts ds
  | .ro ns => some ns
  | .box n => (s[n]?).bind toInts
  | _ => none
section
variable {K : PySem.W.Frag} {mg : Str → Option Value} {H : Hp} {ρ : List Addr} {s : Sto}
theorem inv_ints {d : D} {ns : List Int} {v : V} {a f : Cnt} (w : Wd K mg ρ s H) (e : intsIn s d = some ns) (h : Rep K mg H ρ d v a f) : ∃ p, v = .ref p ∧ SqL K H p (ns.map V.int) := by
  cases d <;> simp only [intsIn, reduceCtorEq, Option.some.injEq] at e
  · obtain ⟨p, vs, a1, f1, rfl, hp, t, _⟩ := inv_lst h
    have := toInts_eq e
    subst this
    rw [t.ints] at hp
    exact ⟨p, rfl, SqL.of hp⟩
  · cases h with
    | box hn _ _ =>
      rename_i n p
      rw [Option.bind_eq_some_iff] at e
      obtain ⟨xs, e1, e2⟩ := e
      obtain ⟨_, vs, a1, f1, hp, t⟩ := w.at_ _ _ _ hn e1
      have := toInts_eq e2
      subst this
      rw [t.ints] at hp
      exact ⟨_, rfl, SqL.of hp⟩
  · subst e
    cases h with
    | ro q _ _ => exact ⟨_, rfl, q.L⟩
end
/-! ### numbers -/
def sm (i : Int) : Bool := decide (i.natAbs < 2 ^ 1900)
theorem sm_log {i : Int} (h : sm i = true) : i.natAbs.log2 < 1900 := PySem.Flt.log2_lt_of (by omega) (of_decide_eq_true h)
@[simp] def gAdd : Sto → List D → Option D := fun _ ds => match ds with
  | [.int i, .int j] => some (.int (i + j))
  | [.str x, .str y] => if x.length + y.length ≤ sizeLine then some (.str (x ++ y)) else none
  | [.lst _ xs, .lst _ ys] => if xs.length + ys.length ≤ sizeLine then some (.lst true (xs ++ ys)) else none
  | [.tup xs, .tup ys] => if xs.length + ys.length ≤ sizeLine then some (.tup (xs ++ ys)) else none
  | _ => none
@[simp] def gSub : Sto → List D → Option D := fun _ ds => match ds with
  | [.int i, .int j] => some (.int (i - j))
  | _ => none
def gMul : Sto → List D → Option D := fun _ ds => match ds with
  | [.int i, .int j] => if sm i = true ∧ sm j = true then some (.int (i * j)) else none
  | [.lst _ [x], .int k] => if plain x = true ∧ 0 ≤ k ∧ k ≤ 1000 then some (.lst true (List.replicate k.toNat x)) else none
  | [.tup xs, .int k] => if plains xs = true ∧ xs ≠ [] ∧ 2 ≤ k ∧ k ≤ 1000 ∧ xs.length ≤ 1000 then some (.tup (List.replicate k.toNat xs).flatten) else none
  | _ => none
def gDiv : Sto → List D → Option D := fun _ ds => match ds with
  | [.int i, .int j] => if 0 < j ∧ sm j = true then some (.int (i / j)) else none
  | _ => none
@[simp] def gMod : Sto → List D → Option D := fun _ ds => match ds with
  | [.int i, .int j] => if 0 < j then some (.int (i % j)) else none
  | _ => none
def gPow : Sto → List D → Option D := fun _ ds => match ds with
  | [.int i, .int j] => if 0 ≤ j ∧ j ≤ 1000 ∧ sm i = true then some (.int (i ^ j.toNat)) else none
  | _ => none
@[simp] def gNeg : Sto → List D → Option D := fun _ ds => match ds with
  | [.int i] => some (.int (-i))
  | _ => none
section
variable {K : PySem.W.Frag} {mg : Str → Option Value} {X : Cx}
theorem fin_int {H : Hp} {ρ : List Addr} {Q : VK} {a f : Cnt} {k : Int} (q : ∀ v H' a' f', Same H H' → Rep K mg H' ρ (.int k) v a' f' → Out a f H a' f' → Q v H') : Q (.int k) H := q _ H c0 c0 (fun _ _ h => h) (.int (fun _ => rfl) (fun _ => rfl)) (.zero (fun _ => rfl) (fun _ => rfl))
theorem fin_bl {H : Hp} {ρ : List Addr} {Q : VK} {a f : Cnt} {k : Bool} (q : ∀ v H' a' f', Same H H' → Rep K mg H' ρ (.bl k) v a' f' → Out a f H a' f' → Q v H') : Q (.bl k) H := q _ H c0 c0 (fun _ _ h => h) (.bl (fun _ => rfl) (fun _ => rfl)) (.zero (fun _ => rfl) (fun _ => rfl))
theorem fin_str {H : Hp} {ρ : List Addr} {Q : VK} {a f : Cnt} {k : Str} (q : ∀ v H' a' f', Same H H' → Rep K mg H' ρ (.str k) v a' f' → Out a f H a' f' → Q v H') : Q (.str k) H := q _ H c0 c0 (fun _ _ h => h) (.str (fun _ => rfl) (fun _ => rfl)) (.zero (fun _ => rfl) (fun _ => rfl))
def rAddZ (K : PySem.W.Frag) : R2 := fun x y H Q => ((rI0 fun i j => .int (i + j)) x y H Q ∨ (∃ i j, x = .str i ∧ y = .str j ∧ i.length + j.length ≤ sizeLine ∧ Q (.str (i ++ j)) H)) ∨ (rCat x y H Q ∨ rCatA K x y H Q)
theorem o_add : OpR X (binaryOp .Add) (rAddZ X.K) := (op_add.or op_add_str).or (op_cat.or op_catA)
theorem v_add : OpV K mg (r2 (rAddZ K)) gAdd := by
  intro ρ s H ds vs a f d w r h e Q q
  unfold Zm.gAdd at e
  split at e
  · cases e
    obtain ⟨v1, v2, _, _, _, _, rfl, r1, r2, _⟩ := r.inv2
    cases inv_int r1; cases inv_int r2
    exact ⟨_, _, rfl, .inl (.inl ⟨_, _, rfl, rfl, fin_int q⟩)⟩
  · split at e
    · rename_i z
      cases e
      obtain ⟨v1, v2, _, _, _, _, rfl, r1, r2, _⟩ := r.inv2
      cases inv_str r1; cases inv_str r2
      exact ⟨_, _, rfl, .inl (.inr ⟨_, _, rfl, rfl, z, fin_str q⟩)⟩
    · cases e
  · split at e
    · rename_i z
      cases e
      obtain ⟨v1, v2, a1, f1, a2, f2, rfl, r1, r2, eq⟩ := r.inv2
      obtain ⟨p1, vs1, b1, g1, rfl, h1, t1, l1⟩ := inv_lst r1
      obtain ⟨p2, vs2, b2, g2, rfl, h2, t2, l2⟩ := inv_lst r2
      refine ⟨_, _, rfl, .inr (.inl ⟨p1, p2, vs1, vs2, rfl, rfl, h1, h2, by rw [← t1.length, ← t2.length]; exact z, fun p hp => ?_⟩)⟩
      have le : ∀ x, (fun x => b1 x + b2 x) x ≤ a x ∧ (fun x => g1 x + g2 x) x ≤ f x := fun x => by have := eq x; have := l1 x; have := l2 x; dsimp only; omega
      obtain ⟨n1, n2⟩ := new_lst w hp (t1.append t2) (h.le le)
      exact q _ _ _ _ (same_upd hp) n1 (n2.le le)
    · cases e
  · split at e
    · rename_i z
      cases e
      obtain ⟨v1, v2, a1, f1, a2, f2, rfl, r1, r2, eq⟩ := r.inv2
      obtain ⟨p1, vs1, rfl, h1, t1⟩ := inv_tup r1
      obtain ⟨p2, vs2, rfl, h2, t2⟩ := inv_tup r2
      have le : ∀ x, (fun x => a1 x + a2 x) x ≤ a x ∧ (fun x => f1 x + f2 x) x ≤ f x := fun x => by have := eq x; dsimp only; omega
      have t12 := t1.append t2
      refine ⟨_, _, rfl, .inr (.inr ⟨p1, p2, vs1, vs2, rfl, rfl, SqT.of h1, SqT.of h2, by rw [← t1.length, ← t2.length]; exact z, fun e1 => ?_, fun e1 e2 => ?_, fun e1 e2 p hp => ?_⟩)⟩
      · subst e1
        rw [List.nil_append] at t12
        exact q _ H _ _ (fun _ _ h => h) (.tup h2 t12) ((Out.refl (h.le le)).le le)
      · subst e2
        rw [List.append_nil] at t12
        exact q _ H _ _ (fun _ _ h => h) (.tup h1 t12) ((Out.refl (h.le le)).le le)
      · exact q _ _ _ _ (same_upd hp) (new_tup hp t12) ((Out.refl (h.le le)).le le)
    · cases e
  · cases e
theorem v_sub : OpV K mg (r2 (rI0 fun i j => .int (i - j))) gSub := by
  intro ρ s H ds vs a f d w r h e Q q
  unfold Zm.gSub at e
  split at e
  · cases e
    obtain ⟨v1, v2, _, _, _, _, rfl, r1, r2, _⟩ := r.inv2
    cases inv_int r1; cases inv_int r2
    exact ⟨_, _, rfl, _, _, rfl, rfl, fin_int q⟩
  · cases e
def rMulZ (K : PySem.W.Frag) : R2 := fun x y H Q => ((L2.rI CMulW fun i j => .int (i * j)) x y H Q ∨ rRep x y H Q) ∨ rRepT K x y H Q
theorem o_mul : OpR X (binaryOp .Mult) (rMulZ X.K) := (op_mulW.or op_rep).or op_repT
theorem reps_rep {H : Hp} {ρ : List Addr} {xs : List D} {vs : List V} (t : Reps K mg H ρ xs vs c0 c0) : ∀ n : Nat, Reps K mg H ρ (List.replicate n xs).flatten (List.replicate n vs).flatten c0 c0
  | 0 => .nil (fun _ => rfl) (fun _ => rfl)
  | n + 1 => by
    rw [List.replicate_succ, List.flatten_cons, List.replicate_succ, List.flatten_cons]
    exact (t.append (reps_rep t n)).cong (fun _ => rfl) (fun _ => rfl)
theorem flat_one {α : Type} (x : α) : ∀ n : Nat, (List.replicate n [x]).flatten = List.replicate n x
  | 0 => rfl
  | n + 1 => by rw [List.replicate_succ, List.flatten_cons, flat_one x n]; rfl
theorem v_mul : OpV K mg (r2 (rMulZ K)) gMul := by
  intro ρ s H ds vs a f d w r h e Q q
  unfold Zm.gMul at e
  split at e
  · split at e
    · rename_i z
      cases e
      obtain ⟨v1, v2, _, _, _, _, rfl, r1, r2, _⟩ := r.inv2
      cases inv_int r1; cases inv_int r2
      exact ⟨_, _, rfl, .inl (.inl ⟨_, _, rfl, rfl, by have := sm_log z.1; have := sm_log z.2; unfold CMulW; omega, fin_int q⟩)⟩
    · cases e
  · split at e
    · rename_i o x k z
      cases e
      obtain ⟨v1, v2, a1, f1, a2, f2, rfl, r1, r2, eq⟩ := r.inv2
      cases inv_int r2
      obtain ⟨p1, vs1, b1, g1, rfl, h1, t1, l1⟩ := inv_lst r1
      obtain ⟨vx, rfl, rx⟩ := t1.inv1
      have zz := rx.plain z.1
      have t0 : Reps K mg H ρ [x] [vx] c0 c0 := t1.cong (fun p => (zz p).1.symm) (fun p => (zz p).2.symm)
      have tn := reps_rep t0 k.toNat
      rw [flat_one, flat_one] at tn
      refine ⟨_, _, rfl, .inl (.inr ⟨p1, k, [vx], rfl, rfl, h1, by omega, by omega, ?_, fun p hp => ?_⟩)⟩
      · show 1 * k.toNat ≤ sizeLine
        have : (1000 : Nat) ≤ sizeLine := by decide
        omega
      · rw [flat_one]
        obtain ⟨n1, n2⟩ := new_lst w hp tn (fun x => ⟨Nat.zero_le _, fun z => no0 z⟩)
        exact q _ _ _ _ (same_upd hp) n1 (n2.le fun x => ⟨Nat.zero_le _, Nat.zero_le _⟩)
    · cases e
  · split at e
    · rename_i xs k z
      cases e
      obtain ⟨v1, v2, a1, f1, a2, f2, rfl, r1, r2, eq⟩ := r.inv2
      cases inv_int r2
      obtain ⟨p1, vs1, rfl, h1, t1⟩ := inv_tup r1
      have zz := t1.plain z.1
      have t0 : Reps K mg H ρ xs vs1 c0 c0 := t1.cong (fun p => (zz p).1.symm) (fun p => (zz p).2.symm)
      refine ⟨_, _, rfl, .inr ⟨p1, k, vs1, rfl, rfl, SqT.of h1, ?_, z.2.2.1, z.2.2.2.1, by rw [← t1.length]; exact z.2.2.2.2, fun p hp => ?_⟩⟩
      · intro e
        subst e
        have := t1.length
        exact z.2.1 (List.eq_nil_of_length_eq_zero this)
      · exact q _ _ _ _ (same_upd hp) (new_tup hp (reps_rep t0 k.toNat)) (.zero (fun _ => rfl) (fun _ => rfl))
    · cases e
  · cases e
theorem v_div : OpV K mg (r2 (L2.rI CDivW fun i j => .int (i / j))) gDiv := by
  intro ρ s H ds vs a f d w r h e Q q
  unfold Zm.gDiv at e
  split at e
  · split at e
    · rename_i z
      cases e
      obtain ⟨v1, v2, _, _, _, _, rfl, r1, r2, _⟩ := r.inv2
      cases inv_int r1; cases inv_int r2
      exact ⟨_, _, rfl, _, _, rfl, rfl, ⟨z.1, by have := sm_log z.2; omega⟩, fin_int q⟩
    · cases e
  · cases e
theorem v_mod : OpV K mg (r2 (L2.rI (fun _ j => 0 < j) fun i j => .int (i % j))) gMod := by
  intro ρ s H ds vs a f d w r h e Q q
  unfold Zm.gMod at e
  split at e
  · split at e
    · rename_i z
      cases e
      obtain ⟨v1, v2, _, _, _, _, rfl, r1, r2, _⟩ := r.inv2
      cases inv_int r1; cases inv_int r2
      exact ⟨_, _, rfl, _, _, rfl, rfl, z, fin_int q⟩
    · cases e
  · cases e
def CPowZ (i j : Int) : Prop := 0 ≤ j ∧ j ≤ 1000 ∧ sm i = true
theorem o_pow : OpR X (binaryOp .Pow) (L2.rI CPowZ fun i j => .int (i ^ j.toNat)) := opI fun i j _ _ _ _ _ hc q => by
  obtain ⟨h1, h2, h3⟩ := hc
  refine pow_int h1 ?_ q
  have b : Builtin.Int.intBits i ≤ 1900 := by
    have := sm_log h3
    unfold Builtin.Int.intBits
    split <;> omega
  have h4 : (Builtin.Int.intBits i : Int) ≤ 1900 := by omega
  have h5 : (Builtin.Int.intBits i : Int) * j ≤ 1900 * 1000 := Int.le_trans (Int.mul_le_mul_of_nonneg_right h4 h1) (Int.mul_le_mul_of_nonneg_left h2 (by omega))
  omega
theorem v_pow : OpV K mg (r2 (L2.rI CPowZ fun i j => .int (i ^ j.toNat))) gPow := by
  intro ρ s H ds vs a f d w r h e Q q
  unfold Zm.gPow at e
  split at e
  · split at e
    · rename_i z
      cases e
      obtain ⟨v1, v2, _, _, _, _, rfl, r1, r2, _⟩ := r.inv2
      cases inv_int r1; cases inv_int r2
      exact ⟨_, _, rfl, _, _, rfl, rfl, z, fin_int q⟩
    · cases e
  · cases e
theorem v_neg : OpV K mg (r1 (rU fun i => .int (-i))) gNeg := by
  intro ρ s H ds vs a f d w r h e Q q
  unfold Zm.gNeg at e
  split at e
  · cases e
    obtain ⟨v1, rfl, r1⟩ := r.inv1
    cases inv_int r1
    exact ⟨_, rfl, _, rfl, fin_int q⟩
  · cases e
/-! ### comparisons -/
@[simp] def gCmpI (p : Int → Int → Bool) : Sto → List D → Option D := fun _ ds => match ds with
  | [.int i, .int j] => some (.bl (p i j))
  | _ => none
@[simp] def gLt := gCmpI fun i j => decide (i < j)
@[simp] def gLe := gCmpI fun i j => decide (i ≤ j)
@[simp] def gGt := gCmpI fun i j => decide (j < i)
@[simp] def gGe := gCmpI fun i j => decide (j ≤ i)
theorem v_cmpI {p : Int → Int → Bool} : OpV K mg (r2 (rI0 fun i j => .bl (p i j))) (gCmpI p) := by
  intro ρ s H ds vs a f d w r h e Q q
  unfold Zm.gCmpI at e
  split at e
  · cases e
    obtain ⟨v1, v2, _, _, _, _, rfl, r1, r2, _⟩ := r.inv2
    cases inv_int r1; cases inv_int r2
    exact ⟨_, _, rfl, _, _, rfl, rfl, fin_bl q⟩
  · cases e
def shapedD (d : D) : Option PyData := match pd d with
  | some x => if SeqAt.shaped x = true then some x else none
  | none => none
theorem shapedD_eq {d : D} {x : PyData} (h : shapedD d = some x) : pd d = some x ∧ SeqAt.shaped x = true := by
  unfold shapedD at h
  split at h
  · rename_i y e
    split at h
    · rename_i z; cases h; exact ⟨e, z⟩
    · cases h
  · cases h
def gEq : Sto → List D → Option D := fun _ ds => match ds with
  | [x, y] => (match shapedD x, shapedD y with
    | some a, some b => some (.bl (PyData.eqv a b))
    | _, _ => none)
  | _ => none
def gNe : Sto → List D → Option D := fun _ ds => match ds with
  | [x, y] => (match shapedD x, shapedD y with
    | some a, some b => some (.bl (!PyData.eqv a b))
    | _, _ => none)
  | _ => none
theorem v_eq : OpV K mg (r2 (rEqD K)) gEq := by
  intro ρ s H ds vs a f d w r h e Q q
  unfold Zm.gEq at e
  split at e
  · split at e
    · rename_i x y e1 e2
      cases e
      obtain ⟨v1, v2, _, _, _, _, rfl, r1, r2, _⟩ := r.inv2
      obtain ⟨p1, s1⟩ := shapedD_eq e1
      obtain ⟨p2, s2⟩ := shapedD_eq e2
      exact ⟨_, _, rfl, _, _, r1.dp p1, r2.dp p2, s1, s2, fin_bl q⟩
    · cases e
  · cases e
theorem v_ne : OpV K mg (r2 (rNeD K)) gNe := by
  intro ρ s H ds vs a f d w r h e Q q
  unfold Zm.gNe at e
  split at e
  · split at e
    · rename_i x y e1 e2
      cases e
      obtain ⟨v1, v2, _, _, _, _, rfl, r1, r2, _⟩ := r.inv2
      obtain ⟨p1, s1⟩ := shapedD_eq e1
      obtain ⟨p2, s2⟩ := shapedD_eq e2
      exact ⟨_, _, rfl, _, _, r1.dp p1, r2.dp p2, s1, s2, fin_bl q⟩
    · cases e
  · cases e
@[simp] def isNon : D → Bool
  | .non => true
  | _ => false
@[simp] def gIsN : Sto → List D → Option D := fun _ ds => match ds with
  | [x, .non] => some (.bl (isNon x))
  | _ => none
@[simp] def gNotN : Sto → List D → Option D := fun _ ds => match ds with
  | [x, .non] => some (.bl (!isNon x))
  | _ => none
theorem isNon_eq {H : Hp} {ρ : List Addr} {d : D} {v : V} {a f : Cnt} (h : Rep K mg H ρ d v a f) : isNon d = decide (v = .non) := by
  cases h <;> simp [isNon]
theorem v_isN : OpV K mg (r2 fun x y H Q => y = .non ∧ Q (.bl (decide (x = .non))) H) gIsN := by
  intro ρ s H ds vs a f d w r h e Q q
  unfold Zm.gIsN at e
  split at e
  · cases e
    obtain ⟨v1, v2, _, _, _, _, rfl, r1, r2, _⟩ := r.inv2
    cases inv_non r2
    rw [isNon_eq r1] at q
    exact ⟨_, _, rfl, rfl, fin_bl q⟩
  · cases e
theorem v_notN : OpV K mg (r2 fun x y H Q => y = .non ∧ Q (.bl (!decide (x = .non))) H) gNotN := by
  intro ρ s H ds vs a f d w r h e Q q
  unfold Zm.gNotN at e
  split at e
  · cases e
    obtain ⟨v1, v2, _, _, _, _, rfl, r1, r2, _⟩ := r.inv2
    cases inv_non r2
    rw [isNon_eq r1] at q
    exact ⟨_, _, rfl, rfl, fin_bl q⟩
  · cases e
end
end Zm
set_option Elab.async false
set_option linter.all false
set_option maxRecDepth 100000
set_option autoImplicit false
/-! Z11: subscripts, slices, built-ins by machine. -/
namespace Zm
open PySem PySem.Spec PyProof.Rows L2
theorem Reps.drop {K : PySem.W.Frag} {mg : Str → Option Value} {H : Hp} {ρ : List Addr} : ∀ {ds : List D} {vs : List V} {a f : Cnt} (n : Nat), Reps K mg H ρ ds vs a f → ∃ a' f', Reps K mg H ρ (ds.drop n) (vs.drop n) a' f' ∧ ∀ x, a' x ≤ a x ∧ f' x ≤ f x
  | _, _, a, f, 0, h => ⟨a, f, by simpa using h, fun _ => ⟨Nat.le_refl _, Nat.le_refl _⟩⟩
  | _, _, a, f, n + 1, .nil h1 h2 => ⟨a, f, by simpa using Reps.nil h1 h2, fun _ => ⟨Nat.le_refl _, Nat.le_refl _⟩⟩
  | _, _, a, f, n + 1, .cons h t e1 e2 => by
    obtain ⟨a', f', r, q⟩ := Reps.drop n t
    exact ⟨a', f', by simpa using r, fun x => by have := q x; rw [e1, e2]; omega⟩
theorem Reps.take {K : PySem.W.Frag} {mg : Str → Option Value} {H : Hp} {ρ : List Addr} : ∀ {ds : List D} {vs : List V} {a f : Cnt} (n : Nat), Reps K mg H ρ ds vs a f → ∃ a' f', Reps K mg H ρ (ds.take n) (vs.take n) a' f' ∧ ∀ x, a' x ≤ a x ∧ f' x ≤ f x
  | _, _, a, f, 0, h => ⟨c0, c0, by rw [List.take_zero, List.take_zero]; exact Reps.nil (fun _ => rfl) (fun _ => rfl), fun _ => ⟨Nat.zero_le _, Nat.zero_le _⟩⟩
  | _, _, a, f, n + 1, .nil h1 h2 => ⟨a, f, by simpa using Reps.nil h1 h2, fun _ => ⟨Nat.le_refl _, Nat.le_refl _⟩⟩
  | _, _, a, f, n + 1, .cons h t e1 e2 => by
    obtain ⟨a', f', r, q⟩ := Reps.take n t
    refine ⟨_, _, by simpa using Reps.cons h r (fun _ => rfl) (fun _ => rfl), fun x => ?_⟩
    have := q x
    rw [e1, e2]
    omega
theorem Reps.atI {K : PySem.W.Frag} {mg : Str → Option Value} {H : Hp} {ρ : List Addr} {ds : List D} {vs : List V} {a f : Cnt} {i : Int} {d : D} (h : Reps K mg H ρ ds vs a f) (e : L2.atI ds i = some d) : ∃ v a' f', L2.atI vs i = some v ∧ Rep K mg H ρ d v a' f' ∧ ∀ x, a' x ≤ a x ∧ f' x ≤ f x := by
  unfold L2.atI at e ⊢
  rw [Option.bind_eq_some_iff] at e
  obtain ⟨j, e1, e2⟩ := e
  obtain ⟨v, a', f', q1, q2, q3⟩ := h.at e2
  exact ⟨v, a', f', by rw [← h.length, e1]; exact q1, q2, q3⟩
def gIx : Sto → List D → Option D := fun s ds => match ds with
  | [.lst _ xs, .int i] => L2.atI xs i
  | [.tup xs, .int i] => L2.atI xs i
  | [.ro ns, .int i] => (L2.atI ns i).map .int
  | [.box n, .int i] => (s[n]?).bind fun xs => L2.atI xs i
  | [.str z, .int i] => if z.length ≤ sizeLine then (L2.atI z.cps.toList i).map fun c => .str ⟨#[c]⟩ else none
  | _ => none
theorem atI_map {α β : Type} (g : α → β) (xs : List α) (i : Int) : L2.atI (xs.map g) i = (L2.atI xs i).map g := by
  unfold L2.atI
  rw [List.length_map]
  cases L2.ixN xs.length i with
  | none => rfl
  | some j => simp
def cutD {α : Type} (xs : List α) (lo hi : Option Int) : List α := (xs.drop (HT.sIx xs.length 0 lo)).take (HT.sIx xs.length xs.length hi - HT.sIx xs.length 0 lo)
def gSlW (d : D) (lo hi : Option Int) : Option D := match d with
  | .lst _ xs => some (.lst true (cutD xs lo hi))
  | .tup xs => some (.tup (cutD xs lo hi))
  | .ro ns => some (.lst true ((cutD ns lo hi).map .int))
  | .str z => if z.length ≤ sizeLine then some (.str (cutS z lo hi)) else none
  | _ => none
def gSl00 : Sto → List D → Option D := fun _ ds => match ds with
  | [d] => gSlW d none none
  | _ => none
def gSl10 : Sto → List D → Option D := fun _ ds => match ds with
  | [d, .int i] => gSlW d (some i) none
  | _ => none
def gSl01 : Sto → List D → Option D := fun _ ds => match ds with
  | [d, .int j] => gSlW d none (some j)
  | _ => none
def gSl11 : Sto → List D → Option D := fun _ ds => match ds with
  | [d, .int i, .int j] => gSlW d (some i) (some j)
  | _ => none
def rSlZ (K : PySem.W.Frag) : V → Option Int → Option Int → Hp → VK → Prop := fun x lo hi H Q => rSlL K x lo hi H Q ∨ rSlA K x lo hi H Q ∨ rSlS x lo hi H Q
theorem sl_any {X : Cx} : SlR X (rSlZ X.K) := by
  intro pins s σ H x v vl vu lo hi sl Q I rx hs pl pu h
  rcases h with h | h | h
  · exact sl_list pins s σ H x v vl vu lo hi sl Q I rx hs pl pu h
  · exact sl_tupA pins s σ H x v vl vu lo hi sl Q I rx hs pl pu h
  · exact sl_str pins s σ H x v vl vu lo hi sl Q I rx hs pl pu h
section
variable {K : PySem.W.Frag} {mg : Str → Option Value}
theorem v_ix : OpV K mg (r2 (rIx K)) gIx := by
  intro ρ s H ds vs a f d w r h e Q q
  unfold Zm.gIx at e
  split at e
  · obtain ⟨v1, v2, a1, f1, a2, f2, rfl, r1, r2, eq⟩ := r.inv2
    cases inv_int r2
    obtain ⟨p1, vs1, b1, g1, rfl, h1, t1, l1⟩ := inv_lst r1
    obtain ⟨v, a', f', e1, rp, le⟩ := t1.atI e
    have le' : ∀ x, a' x ≤ a x ∧ f' x ≤ f x := fun x => by have := eq x; have := l1 x; have := le x; omega
    exact ⟨_, _, rfl, .inl ⟨p1, _, _, v, rfl, rfl, SqL.of h1, e1, q _ H _ _ (fun _ _ h => h) rp ((Out.refl (h.le le')).le le')⟩⟩
  · obtain ⟨v1, v2, a1, f1, a2, f2, rfl, r1, r2, eq⟩ := r.inv2
    cases inv_int r2
    obtain ⟨p1, vs1, rfl, h1, t1⟩ := inv_tup r1
    obtain ⟨v, a', f', e1, rp, le⟩ := t1.atI e
    have le' : ∀ x, a' x ≤ a x ∧ f' x ≤ f x := fun x => by have := eq x; have := le x; omega
    exact ⟨_, _, rfl, .inr (.inl ⟨p1, _, _, v, rfl, rfl, SqT.of h1, e1, q _ H _ _ (fun _ _ h => h) rp ((Out.refl (h.le le')).le le')⟩)⟩
  · obtain ⟨v1, v2, a1, f1, a2, f2, rfl, r1, r2, eq⟩ := r.inv2
    cases inv_int r2
    cases r1 with
    | ro hq _ _ =>
      rw [Option.map_eq_some_iff] at e
      obtain ⟨n, e1, rfl⟩ := e
      exact ⟨_, _, rfl, .inl ⟨_, _, _, _, rfl, rfl, hq.L, by rw [atI_map, e1]; rfl, fin_int q⟩⟩
  · obtain ⟨v1, v2, a1, f1, a2, f2, rfl, r1, r2, eq⟩ := r.inv2
    cases inv_int r2
    cases r1 with
    | box hn _ _ =>
      rw [Option.bind_eq_some_iff] at e
      obtain ⟨xs, e1, e2⟩ := e
      obtain ⟨pl, vs1, b1, g1, hp, t1⟩ := w.at_ _ _ _ hn e1
      obtain ⟨v, a', f', e3, rp, le⟩ := t1.atI e2
      have z := t1.plain pl
      exact ⟨_, _, rfl, .inl ⟨_, _, _, v, rfl, rfl, SqL.of hp, e3, q _ H _ _ (fun _ _ h => h) rp (.zero (fun x => by have := z x; have := le x; omega) (fun x => by have := z x; have := le x; omega))⟩⟩
  · split at e
    · rename_i z
      obtain ⟨v1, v2, a1, f1, a2, f2, rfl, r1, r2, eq⟩ := r.inv2
      cases inv_int r2; cases inv_str r1
      rw [Option.map_eq_some_iff] at e
      obtain ⟨c, e1, rfl⟩ := e
      exact ⟨_, _, rfl, .inr (.inr ⟨_, _, c, rfl, rfl, z, e1, fin_str q⟩)⟩
    · cases e
  · cases e
theorem sl_core {ρ : List Addr} {s : Sto} {H : Hp} {d0 d : D} {v : V} {a f : Cnt} {lo hi : Option Int} (w : Wd K mg ρ s H) (r : Rep K mg H ρ d0 v a f) (h : Sp1 a f) (e : gSlW d0 lo hi = some d) (Q : VK) (q : ∀ v H' a' f', Same H H' → Rep K mg H' ρ d v a' f' → Out a f H a' f' → Q v H') : rSlZ K v lo hi H Q := by
  cases d0 <;> simp only [gSlW, reduceCtorEq, Option.some.injEq] at e
  · split at e
    · rename_i z
      cases e
      cases inv_str r
      exact .inr (.inr ⟨_, rfl, z, fin_str q⟩)
    · cases e
  · subst e
    obtain ⟨p1, vs1, rfl, h1, t1⟩ := inv_tup r
    refine .inr (.inl ⟨p1, vs1, rfl, SqT.of h1, fun c => ?_, fun c p hp => ?_⟩)
    · have hx : ∀ {α : Type} (xs : List α), xs.length = vs1.length → cutD xs lo hi = xs := fun xs hl => by
        unfold cutD
        rw [hl, c.1, c.2]
        simp [← hl]
      rw [hx _ t1.length] at q
      exact q _ H _ _ (fun _ _ h => h) (.tup h1 t1) (.refl h)
    · unfold cutD at q
      obtain ⟨a1, f1, t2, le1⟩ := t1.drop (HT.sIx vs1.length 0 lo)
      obtain ⟨a2, f2, t3, le2⟩ := t2.take (HT.sIx vs1.length vs1.length hi - HT.sIx vs1.length 0 lo)
      rw [t1.length] at q
      have le : ∀ x, a2 x ≤ a x ∧ f2 x ≤ f x := fun x => by have := le1 x; have := le2 x; omega
      exact q _ _ _ _ (same_upd hp) (new_tup hp t3) ((Out.refl (h.le le)).le le)
  · subst e
    obtain ⟨p1, vs1, b1, g1, rfl, h1, t1, l1⟩ := inv_lst r
    refine .inl ⟨p1, vs1, rfl, SqL.of h1, fun p hp => ?_⟩
    unfold cutD at q
    obtain ⟨a1, f1, t2, le1⟩ := t1.drop (HT.sIx vs1.length 0 lo)
    obtain ⟨a2, f2, t3, le2⟩ := t2.take (HT.sIx vs1.length vs1.length hi - HT.sIx vs1.length 0 lo)
    rw [t1.length] at q
    have le : ∀ x, a2 x ≤ a x ∧ f2 x ≤ f x := fun x => by have := le1 x; have := le2 x; have := l1 x; omega
    obtain ⟨n1, n2⟩ := new_lst w hp t3 (h.le le)
    exact q _ _ _ _ (same_upd hp) n1 (n2.le le)
  · subst e
    cases r with
    | ro hq _ _ =>
      refine .inl ⟨_, _, rfl, hq.L, fun p hp => ?_⟩
      have e2 : ∀ ns : List Int, cutV (ns.map V.int) lo hi = (cutD ns lo hi).map V.int := fun ns => by
        unfold cutV cutD
        rw [List.length_map, List.map_take, List.map_drop]
      rw [e2]
      obtain ⟨n1, n2⟩ := new_lst w hp (reps_ints _) (fun x => ⟨Nat.zero_le _, fun z => no0 z⟩)
      exact q _ _ _ _ (same_upd hp) n1 (n2.le fun x => ⟨Nat.zero_le _, Nat.zero_le _⟩)
end
section
variable {X : Cx} {W : WX} {e : Expr} {m ma mb mc : M} {ms : List M} {pos p2 : Pos} {a b c : Expr}
theorem s_ix (ha : SE X W a ma) (hb : SE X W b mb) (hs : PlainIx b := by intro _ _; rfl) : SE X W (.Subscript a b pos) (mOp gIx [ma, mb]) :=
  PE.imp (pe_ix ix_seq ha hb hs) fun σ H Q h => rE_mono (rA_2 (rA_op v_ix h)) fun v H1 q => rE_mono q fun u H2 ⟨x, y, e, z⟩ => by cases e; exact z
theorem s_sl00 (ha : SE X W a ma) : SE X W (.Subscript a (.Slice none none none p2) pos) (mOp gSl00 [ma]) :=
  PE.imp (pe_slice sl_any ha po_none po_none) fun σ H Q h => rE_mono (rA_1 (rA_op (r := fun vs H Q => ∃ x, vs = [x] ∧ rSlZ X.K x none none H Q) (fun ρ s H ds vs a f d w r h e Q q => by
    unfold Zm.gSl00 at e
    split at e
    · obtain ⟨v1, rfl, r1⟩ := r.inv1
      exact ⟨_, rfl, sl_core w r1 h e Q q⟩
    · cases e) h)) fun v H1 ⟨x, e, z⟩ => by cases e; exact z
theorem rp_int {K : PySem.W.Frag} {mg : Str → Option Value} {H : Hp} {ρ : List Addr} {ds : List D} {vs : List V} {a f : Cnt} (r : Reps K mg H ρ ds vs a f) : True := trivial
theorem v_sl10 {K : PySem.W.Frag} {mg : Str → Option Value} : OpV K mg (fun vs H Q => ∃ x i, vs = [x, .int i] ∧ rSlZ K x (some i) none H Q) gSl10 := by
  intro ρ s H ds vs a f d w r h e Q q
  unfold Zm.gSl10 at e
  split at e
  · obtain ⟨v1, v2, a1, f1, a2, f2, rfl, r1, r2, eq⟩ := r.inv2
    cases inv_int r2
    have le : ∀ x, a1 x ≤ a x ∧ f1 x ≤ f x := fun x => by have := eq x; omega
    exact ⟨_, _, rfl, sl_core w r1 (h.le le) e Q fun v H' a' f' s1 r1 o => q v H' a' f' s1 r1 (o.le le)⟩
  · cases e
theorem v_sl01 {K : PySem.W.Frag} {mg : Str → Option Value} : OpV K mg (fun vs H Q => ∃ x i, vs = [x, .int i] ∧ rSlZ K x none (some i) H Q) gSl01 := by
  intro ρ s H ds vs a f d w r h e Q q
  unfold Zm.gSl01 at e
  split at e
  · obtain ⟨v1, v2, a1, f1, a2, f2, rfl, r1, r2, eq⟩ := r.inv2
    cases inv_int r2
    have le : ∀ x, a1 x ≤ a x ∧ f1 x ≤ f x := fun x => by have := eq x; omega
    exact ⟨_, _, rfl, sl_core w r1 (h.le le) e Q fun v H' a' f' s1 r1 o => q v H' a' f' s1 r1 (o.le le)⟩
  · cases e
theorem v_sl11 {K : PySem.W.Frag} {mg : Str → Option Value} : OpV K mg (fun vs H Q => ∃ x i j, vs = [x, .int i, .int j] ∧ rSlZ K x (some i) (some j) H Q) gSl11 := by
  intro ρ s H ds vs a f d w r h e Q q
  unfold Zm.gSl11 at e
  split at e
  · obtain ⟨v1, v2, v3, a1, f1, a2, f2, a3, f3, rfl, r1, r2, r3, eq⟩ := r.inv3
    cases inv_int r2; cases inv_int r3
    have le : ∀ x, a1 x ≤ a x ∧ f1 x ≤ f x := fun x => by have := eq x; omega
    exact ⟨_, _, _, rfl, sl_core w r1 (h.le le) e Q fun v H' a' f' s1 r1 o => q v H' a' f' s1 r1 (o.le le)⟩
  · cases e
theorem s_sl10 (ha : SE X W a ma) (hb : SE X W b mb) : SE X W (.Subscript a (.Slice (some b) none none p2) pos) (mOp gSl10 [ma, mb]) :=
  PE.imp (pe_slice sl_any ha (po_some hb) po_none) fun σ H Q h => rE_mono (rA_2 (rA_op v_sl10 h)) fun v H1 q => rE_mono q fun u H2 ⟨x, i, e, z⟩ => by cases e; exact ⟨_, rfl, z⟩
theorem s_sl01 (ha : SE X W a ma) (hb : SE X W b mb) : SE X W (.Subscript a (.Slice none (some b) none p2) pos) (mOp gSl01 [ma, mb]) :=
  PE.imp (pe_slice sl_any ha po_none (po_some hb)) fun σ H Q h => rE_mono (rA_2 (rA_op v_sl01 h)) fun v H1 q => rE_mono q fun u H2 ⟨x, i, e, z⟩ => by cases e; exact ⟨_, rfl, z⟩
theorem rA_3 {K : PySem.W.Frag} {mg : Str → Option Value} {W : WX} {σ : L2.St} {H : Hp} {Q : List V → Hp → Prop} (h : rA K mg W (mArgs [ma, mb, mc]) σ H Q) : rE K mg W ma σ H fun x H1 => rE K mg W mb σ H1 fun y H2 => rE K mg W mc σ H2 fun z H3 => Q [x, y, z] H3 := rE_mono (rA_cons h) fun v H1 q => rA_2 q
@[simp] def mI (m : M) : M := fun σ s => (m σ s).bind fun d s' => match d with
  | .int i => .ok (.int i) s'
  | _ => .bad
theorem rE_mI {K : PySem.W.Frag} {mg : Str → Option Value} {W : WX} {σ : L2.St} {H : Hp} {Q : VK} (h : rE K mg W (mI m) σ H Q) : rE K mg W m σ H fun v H1 => ∃ i, v = .int i ∧ Q (.int i) H1 := by
  obtain ⟨σm, s, ρ, A, F, rel, h⟩ := h
  refine ⟨σm, s, ρ, A, F, rel, ?_⟩
  unfold mI at h
  cases e : m σm s with
  | bad => rw [e] at h; exact h
  | ex x s1 => rw [e] at h; exact h
  | ok d s1 =>
    rw [e, Zm.R.bind_ok] at h
    intro v H1 ρ1 a f fr wd rp g
    cases d <;> first | exact (h.elim) | skip
    cases rp
    exact ⟨_, rfl, h _ H1 ρ1 c0 c0 fr wd (.int (fun _ => rfl) (fun _ => rfl)) (.zero (fun _ => rfl) (fun _ => rfl))⟩
theorem s_sl11 (ha : SE X W a ma) (hb : SE X W b mb) (hc : SE X W c mc) : SE X W (.Subscript a (.Slice (some b) (some c) none p2) pos) (mOp gSl11 [ma, mI mb, mI mc]) :=
  PE.imp (pe_slice sl_any ha (po_some hb) (po_some hc)) fun σ H Q h => rE_mono (rA_3 (rA_op v_sl11 h)) fun v H1 q => rE_mono (rE_mI q) fun u H2 ⟨i, e, q⟩ => by
    subst e
    exact ⟨i, rfl, rE_mono (rE_mI q) fun y H3 ⟨j, e, x, i', j', e2, z⟩ => by subst e; cases e2; exact ⟨_, rfl, z⟩⟩
end
/-! ### built-ins -/
@[simp] def gLen : Sto → List D → Option D := fun s ds => match ds with
  | [.lst _ xs] => some (.int (xs.length : Nat))
  | [.tup xs] => some (.int (xs.length : Nat))
  | [.ro ns] => some (.int (ns.length : Nat))
  | [.box n] => (s[n]?).map fun xs => .int (xs.length : Nat)
  | [.str z] => if z.length ≤ sizeLine then some (.int (z.length : Nat)) else none
  | _ => none
@[simp] def gAbs : Sto → List D → Option D := fun _ ds => match ds with
  | [.int i] => some (.int (if i < 0 then -i else i))
  | _ => none
@[simp] def gMax2 : Sto → List D → Option D := fun _ ds => match ds with
  | [.int i, .int j] => some (.int (if j > i then j else i))
  | _ => none
@[simp] def gMin2 : Sto → List D → Option D := fun _ ds => match ds with
  | [.int i, .int j] => some (.int (if j < i then j else i))
  | _ => none
def maxI (x : Int) (xs : List Int) : Int := xs.foldl (fun m y => if m < y then y else m) x
def minI (x : Int) (xs : List Int) : Int := xs.foldl (fun m y => if y < m then y else m) x
def gMaxL : Sto → List D → Option D := fun s ds => match ds with
  | [d] => (intsIn s d).bind fun ns => match ns with
    | x :: xs => some (.int (maxI x xs))
    | [] => none
  | _ => none
def gMinL : Sto → List D → Option D := fun s ds => match ds with
  | [d] => (intsIn s d).bind fun ns => match ns with
    | x :: xs => some (.int (minI x xs))
    | [] => none
  | _ => none
def gSum : Sto → List D → Option D := fun s ds => match ds with
  | [d] => (intsIn s d).map fun ns => .int ns.sum
  | _ => none
def toBls : List D → Option (List Bool)
  | [] => some []
  | .bl i :: ds => (toBls ds).map (i :: ·)
  | _ => none
@[simp] theorem toBls_map (ns : List Bool) : toBls (ns.map D.bl) = some ns := by
  induction ns with
  | nil => rfl
  | cons n ns ih => simp [toBls, ih]
def gAll : Sto → List D → Option D := fun _ ds => match ds with
  | [.lst _ xs] => (toBls xs).map fun bs => .bl (bs.all id)
  | _ => none
def gAny : Sto → List D → Option D := fun _ ds => match ds with
  | [.lst _ xs] => (toBls xs).map fun bs => .bl (bs.any id)
  | _ => none
def gList : Sto → List D → Option D := fun s ds => match ds with
  | [.lst _ xs] => some (.lst true xs)
  | [.tup xs] => some (.lst true xs)
  | [.ro ns] => some (.lst true (ns.map .int))
  | [.box n] => (s[n]?).map fun xs => .lst true xs
  | _ => none
def gTuple : Sto → List D → Option D := fun s ds => match ds with
  | [.lst _ xs] => some (.tup xs)
  | [.tup xs] => some (.tup xs)
  | [.ro ns] => some (.tup (ns.map .int))
  | _ => none
def gSorted : Sto → List D → Option D := fun s ds => match ds with
  | [d] => (intsIn s d).map fun ns => .lst true ((ns.mergeSort (fun a b => decide (a ≤ b))).map .int)
  | _ => none
@[simp] def tyOf : D → Option String
  | .non => some "NoneType" | .bl _ => some "bool" | .int _ => some "int" | .str _ => some "str" | .tup _ => some "tuple" | .lst _ _ => some "list" | .ro _ => some "list" | .box _ => some "list"
  | _ => none
@[simp] def isiB (a b : String) : Bool := a == b || (a == "bool" && b == "int")
@[simp] def knownT (b : String) : Bool := ["int", "bool", "tuple", "list", "str", "dict"].contains b
theorem kit_known {a b : String} {d : D} (h : tyOf d = some a) (hb : knownT b = true) : kitB a b = some (isiB a b) := by
  have hb : b = "int" ∨ b = "bool" ∨ b = "tuple" ∨ b = "list" ∨ b = "str" ∨ b = "dict" := by simpa [knownT] using hb
  have ha : a = "NoneType" ∨ a = "bool" ∨ a = "int" ∨ a = "str" ∨ a = "tuple" ∨ a = "list" := by
    cases d <;> simp [tyOf] at h <;> subst h <;> simp
  rcases ha with rfl | rfl | rfl | rfl | rfl | rfl <;> rcases hb with rfl | rfl | rfl | rfl | rfl | rfl <;> decide +kernel
@[simp] def gIsi : Sto → List D → Option D := fun _ ds => match ds with
  | [x, .ty b] => (tyOf x).bind fun a => if knownT b = true then some (.bl (isiB a b)) else none
  | _ => none
@[simp] def gIsi2 : Sto → List D → Option D := fun _ ds => match ds with
  | [x, .tup [.ty b, .ty c]] => (tyOf x).bind fun a => if knownT b = true ∧ knownT c = true then some (.bl (isiB a b || isiB a c)) else none
  | _ => none
def gRepr : Sto → List D → Option D := fun _ ds => match ds with
  | [d] => (pd d).bind fun x => if x.showable = true ∧ x.hasDict = false ∧ x.depth ≤ 60 ∧ x.shown.length ≤ sizeLine then some (.str x.shown) else none
  | _ => none
def gStr : Sto → List D → Option D := fun _ ds => match ds with
  | [.int i] => if sm i = true then some (.str (toString i)) else none
  | _ => none
section
variable {K : PySem.W.Frag} {mg : Str → Option Value} {X : Cx}
theorem v_len : OpV K mg (fun xs H Q => ∃ x n, xs = [x] ∧ LenV K x H n ∧ Q (.int n) H) gLen := by
  intro ρ s H ds vs a f d w r h e Q q
  unfold Zm.gLen at e
  split at e
  · cases e
    obtain ⟨v1, rfl, r1⟩ := r.inv1
    obtain ⟨p1, vs1, b1, g1, rfl, h1, t1, l1⟩ := inv_lst r1
    exact ⟨_, _, rfl, .inl ⟨_, SqL.of h1, t1.length⟩, fin_int q⟩
  · cases e
    obtain ⟨v1, rfl, r1⟩ := r.inv1
    obtain ⟨p1, vs1, rfl, h1, t1⟩ := inv_tup r1
    exact ⟨_, _, rfl, .inr ⟨_, SqT.of h1, t1.length⟩, fin_int q⟩
  · cases e
    obtain ⟨v1, rfl, r1⟩ := r.inv1
    cases r1 with
    | ro hq _ _ => exact ⟨_, _, rfl, .inl ⟨_, hq.L, by rw [List.length_map]⟩, fin_int q⟩
  · rw [Option.map_eq_some_iff] at e
    obtain ⟨xs, e1, rfl⟩ := e
    obtain ⟨v1, rfl, r1⟩ := r.inv1
    cases r1 with
    | box hn _ _ =>
      obtain ⟨pl, vs1, b1, g1, hp, t1⟩ := w.at_ _ _ _ hn e1
      exact ⟨_, _, rfl, .inl ⟨_, SqL.of hp, t1.length⟩, fin_int q⟩
  · split at e
    · rename_i z
      cases e
      obtain ⟨v1, rfl, r1⟩ := r.inv1
      cases inv_str r1
      exact ⟨_, _, rfl, ⟨z, rfl⟩, fin_int q⟩
    · cases e
  · cases e
theorem v_abs : OpV K mg (fun xs H Q => ∃ i, xs = [.int i] ∧ Q (.int (if i < 0 then -i else i)) H) gAbs := by
  intro ρ s H ds vs a f d w r h e Q q
  unfold Zm.gAbs at e
  split at e
  · cases e
    obtain ⟨v1, rfl, r1⟩ := r.inv1
    cases inv_int r1
    exact ⟨_, rfl, fin_int q⟩
  · cases e
theorem v_max2 : OpV K mg (fun xs H Q => ∃ i j, xs = [.int i, .int j] ∧ Q (.int (if j > i then j else i)) H) gMax2 := by
  intro ρ s H ds vs a f d w r h e Q q
  unfold Zm.gMax2 at e
  split at e
  · cases e
    obtain ⟨v1, v2, _, _, _, _, rfl, r1, r2, _⟩ := r.inv2
    cases inv_int r1; cases inv_int r2
    exact ⟨_, _, rfl, fin_int q⟩
  · cases e
theorem v_min2 : OpV K mg (fun xs H Q => ∃ i j, xs = [.int i, .int j] ∧ Q (.int (if j < i then j else i)) H) gMin2 := by
  intro ρ s H ds vs a f d w r h e Q q
  unfold Zm.gMin2 at e
  split at e
  · cases e
    obtain ⟨v1, v2, _, _, _, _, rfl, r1, r2, _⟩ := r.inv2
    cases inv_int r1; cases inv_int r2
    exact ⟨_, _, rfl, fin_int q⟩
  · cases e
theorem maxI_spec : ∀ (xs : List Int) (x : Int), maxI x xs ∈ x :: xs ∧ ∀ y ∈ x :: xs, y ≤ maxI x xs
  | [], x => ⟨by simp [maxI], fun y hy => by simp at hy; subst hy; simp [maxI]⟩
  | z :: xs, x => by
    have ih := maxI_spec xs (if x < z then z else x)
    have e : maxI x (z :: xs) = maxI (if x < z then z else x) xs := rfl
    rw [e]
    constructor
    · rcases List.mem_cons.mp ih.1 with h | h
      · rw [h]; split <;> simp
      · exact List.mem_cons_of_mem _ (List.mem_cons_of_mem _ h)
    · intro y hy
      have h0 := ih.2 _ List.mem_cons_self
      by_cases c : x < z
      · rw [if_pos c] at h0 ih ⊢
        rcases List.mem_cons.mp hy with h | h
        · omega
        · rcases List.mem_cons.mp h with h | h
          · omega
          · exact ih.2 y (List.mem_cons_of_mem _ h)
      · rw [if_neg c] at h0 ih ⊢
        rcases List.mem_cons.mp hy with h | h
        · omega
        · rcases List.mem_cons.mp h with h | h
          · omega
          · exact ih.2 y (List.mem_cons_of_mem _ h)
theorem minI_spec : ∀ (xs : List Int) (x : Int), minI x xs ∈ x :: xs ∧ ∀ y ∈ x :: xs, minI x xs ≤ y
  | [], x => ⟨by simp [minI], fun y hy => by simp at hy; subst hy; simp [minI]⟩
  | z :: xs, x => by
    have ih := minI_spec xs (if z < x then z else x)
    have e : minI x (z :: xs) = minI (if z < x then z else x) xs := rfl
    rw [e]
    constructor
    · rcases List.mem_cons.mp ih.1 with h | h
      · rw [h]; split <;> simp
      · exact List.mem_cons_of_mem _ (List.mem_cons_of_mem _ h)
    · intro y hy
      have h0 := ih.2 _ List.mem_cons_self
      by_cases c : z < x
      · rw [if_pos c] at h0 ih ⊢
        rcases List.mem_cons.mp hy with h | h
        · omega
        · rcases List.mem_cons.mp h with h | h
          · omega
          · exact ih.2 y (List.mem_cons_of_mem _ h)
      · rw [if_neg c] at h0 ih ⊢
        rcases List.mem_cons.mp hy with h | h
        · omega
        · rcases List.mem_cons.mp h with h | h
          · omega
          · exact ih.2 y (List.mem_cons_of_mem _ h)
theorem v_maxL : OpV K mg (rMax K) gMaxL := by
  intro ρ s H ds vs a f d w r h e Q q
  unfold Zm.gMaxL at e
  split at e
  · rw [Option.bind_eq_some_iff] at e
    obtain ⟨ns, e1, e2⟩ := e
    obtain ⟨v1, rfl, r1⟩ := r.inv1
    obtain ⟨p, rfl, hq⟩ := inv_ints w e1 r1
    cases ns with
    | nil => cases e2
    | cons x xs =>
      cases e2
      refine ⟨p, _, rfl, hq, by simp, fun m hm hle => ?_⟩
      have := maxI_spec xs x
      have e : m = maxI x xs := by
        have := hle _ this.1
        have := (maxI_spec xs x).2 m hm
        omega
      subst e
      exact fin_int q
  · cases e
theorem v_minL : OpV K mg (rMin K) gMinL := by
  intro ρ s H ds vs a f d w r h e Q q
  unfold Zm.gMinL at e
  split at e
  · rw [Option.bind_eq_some_iff] at e
    obtain ⟨ns, e1, e2⟩ := e
    obtain ⟨v1, rfl, r1⟩ := r.inv1
    obtain ⟨p, rfl, hq⟩ := inv_ints w e1 r1
    cases ns with
    | nil => cases e2
    | cons x xs =>
      cases e2
      refine ⟨p, _, rfl, hq, by simp, fun m hm hle => ?_⟩
      have := minI_spec xs x
      have e : m = minI x xs := by
        have := hle _ this.1
        have := (minI_spec xs x).2 m hm
        omega
      subst e
      exact fin_int q
  · cases e
theorem v_sum : OpV K mg (rSum K) gSum := by
  intro ρ s H ds vs a f d w r h e Q q
  unfold Zm.gSum at e
  split at e
  · rw [Option.map_eq_some_iff] at e
    obtain ⟨ns, e1, rfl⟩ := e
    obtain ⟨v1, rfl, r1⟩ := r.inv1
    obtain ⟨p, rfl, hq⟩ := inv_ints w e1 r1
    exact ⟨p, ns, rfl, hq, fin_int q⟩
  · cases e
theorem toBls_eq {K : PySem.W.Frag} {mg : Str → Option Value} {H : Hp} {ρ : List Addr} : ∀ {ds : List D} {bs : List Bool} {vs : List V} {a f : Cnt}, toBls ds = some bs → Reps K mg H ρ ds vs a f → vs = bs.map V.bl
  | [], _, _, _, _, h, r => by cases h; cases r; rfl
  | .bl b :: ds, _, _, _, _, h, .cons r t _ _ => by
    rw [toBls, Option.map_eq_some_iff] at h
    obtain ⟨r', e, rfl⟩ := h
    rw [inv_bl r, toBls_eq e t]; rfl
  | .non :: _, _, _, _, _, h, _ => by simp [toBls] at h
  | .int _ :: _, _, _, _, _, h, _ => by simp [toBls] at h
  | .str _ :: _, _, _, _, _, h, _ => by simp [toBls] at h
  | .tup _ :: _, _, _, _, _, h, _ => by simp [toBls] at h
  | .lst _ _ :: _, _, _, _, _, h, _ => by simp [toBls] at h
  | .dic _ _ _ :: _, _, _, _, _, h, _ => by simp [toBls] at h
  | .box _ :: _, _, _, _, _, h, _ => by simp [toBls] at h
  | .fn _ :: _, _, _, _, _, h, _ => by simp [toBls] at h
  | .ty _ :: _, _, _, _, _, h, _ => by simp [toBls] at h
  | .exc _ _ :: _, _, _, _, _, h, _ => by simp [toBls] at h
  | .ro _ :: _, _, _, _, _, h, _ => by simp [toBls] at h
theorem v_all : OpV K mg (rAll K) gAll := by
  intro ρ s H ds vs a f d w r h e Q q
  unfold Zm.gAll at e
  split at e
  · rw [Option.map_eq_some_iff] at e
    obtain ⟨ns, e1, rfl⟩ := e
    obtain ⟨v1, rfl, r1⟩ := r.inv1
    obtain ⟨p1, vs1, b1, g1, rfl, h1, t1, l1⟩ := inv_lst r1
    rw [toBls_eq e1 t1] at h1
    exact ⟨p1, ns, rfl, SqL.of h1, fin_bl q⟩
  · cases e
theorem v_any : OpV K mg (rAny K) gAny := by
  intro ρ s H ds vs a f d w r h e Q q
  unfold Zm.gAny at e
  split at e
  · rw [Option.map_eq_some_iff] at e
    obtain ⟨ns, e1, rfl⟩ := e
    obtain ⟨v1, rfl, r1⟩ := r.inv1
    obtain ⟨p1, vs1, b1, g1, rfl, h1, t1, l1⟩ := inv_lst r1
    rw [toBls_eq e1 t1] at h1
    exact ⟨p1, ns, rfl, SqL.of h1, fin_bl q⟩
  · cases e
theorem v_list : OpV K mg (fun xs H Q => ∃ p ys, xs = [.ref p] ∧ (SqL K H p ys ∨ SqT K H p ys) ∧ ∀ l, H l = none → Q (.ref l) (upd H l (.lst ys))) gList := by
  intro ρ s H ds vs a f d w r h e Q q
  unfold Zm.gList at e
  split at e
  · cases e
    obtain ⟨v1, rfl, r1⟩ := r.inv1
    obtain ⟨p1, vs1, b1, g1, rfl, h1, t1, l1⟩ := inv_lst r1
    refine ⟨p1, vs1, rfl, .inl (SqL.of h1), fun p hp => ?_⟩
    obtain ⟨n1, n2⟩ := new_lst w hp t1 (h.le l1)
    exact q _ _ _ _ (same_upd hp) n1 (n2.le l1)
  · cases e
    obtain ⟨v1, rfl, r1⟩ := r.inv1
    obtain ⟨p1, vs1, rfl, h1, t1⟩ := inv_tup r1
    refine ⟨p1, vs1, rfl, .inr (SqT.of h1), fun p hp => ?_⟩
    obtain ⟨n1, n2⟩ := new_lst w hp t1 h
    exact q _ _ _ _ (same_upd hp) n1 n2
  · cases e
    obtain ⟨v1, rfl, r1⟩ := r.inv1
    cases r1 with
    | ro hq _ _ =>
      refine ⟨_, _, rfl, .inl hq.L, fun p hp => ?_⟩
      obtain ⟨n1, n2⟩ := new_lst w hp (reps_ints _) (fun x => ⟨Nat.zero_le _, fun z => no0 z⟩)
      exact q _ _ _ _ (same_upd hp) n1 (n2.le fun x => ⟨Nat.zero_le _, Nat.zero_le _⟩)
  · rw [Option.map_eq_some_iff] at e
    obtain ⟨xs, e1, rfl⟩ := e
    obtain ⟨v1, rfl, r1⟩ := r.inv1
    cases r1 with
    | box hn _ _ =>
      obtain ⟨pl, vs1, b1, g1, hp1, t1⟩ := w.at_ _ _ _ hn e1
      have z := t1.plain pl
      have t0 := t1.cong (A' := c0) (F' := c0) (fun p => (z p).1.symm) (fun p => (z p).2.symm)
      refine ⟨_, _, rfl, .inl (SqL.of hp1), fun p hp => ?_⟩
      obtain ⟨n1, n2⟩ := new_lst w hp t0 (fun x => ⟨Nat.zero_le _, fun z => no0 z⟩)
      exact q _ _ _ _ (same_upd hp) n1 (n2.le fun x => ⟨Nat.zero_le _, Nat.zero_le _⟩)
  · cases e
theorem v_tuple : OpV K mg (fun xs H Q => ∃ p ys, xs = [.ref p] ∧ ((SqL K H p ys ∧ ∀ l, H l = none → Q (.ref l) (upd H l (.tup ys))) ∨ (SqT K H p ys ∧ Q (.ref p) H))) gTuple := by
  intro ρ s H ds vs a f d w r h e Q q
  unfold Zm.gTuple at e
  split at e
  · cases e
    obtain ⟨v1, rfl, r1⟩ := r.inv1
    obtain ⟨p1, vs1, b1, g1, rfl, h1, t1, l1⟩ := inv_lst r1
    exact ⟨p1, vs1, rfl, .inl ⟨SqL.of h1, fun p hp => q _ _ _ _ (same_upd hp) (new_tup hp t1) ((Out.refl (h.le l1)).le l1)⟩⟩
  · cases e
    obtain ⟨v1, rfl, r1⟩ := r.inv1
    obtain ⟨p1, vs1, rfl, h1, t1⟩ := inv_tup r1
    exact ⟨p1, vs1, rfl, .inr ⟨SqT.of h1, q _ H _ _ (fun _ _ h => h) (.tup h1 t1) (.refl h)⟩⟩
  · cases e
    obtain ⟨v1, rfl, r1⟩ := r.inv1
    cases r1 with
    | ro hq _ _ => exact ⟨_, _, rfl, .inl ⟨hq.L, fun p hp => q _ _ _ _ (same_upd hp) (new_tup hp (reps_ints _)) (.zero (fun _ => rfl) (fun _ => rfl))⟩⟩
  · cases e
theorem isi_ty {H : Hp} {ρ : List Addr} {s : Sto} {d : D} {v : V} {a f : Cnt} {n : String} (w : Wd K mg ρ s H) (e : tyOf d = some n) (r : Rep K mg H ρ d v a f) : TyX K H v (.type n) := by
  cases d <;> simp only [tyOf, Option.some.injEq, reduceCtorEq] at e <;> subst e
  · cases r; exact .base .non
  · cases r; exact .base (.bl _)
  · cases r; exact .base (.int _)
  · cases r; exact .base (.str _)
  · obtain ⟨p1, vs1, rfl, h1, t1⟩ := inv_tup r; exact .base (.tup h1)
  · obtain ⟨p1, vs1, b1, g1, rfl, h1, t1, l1⟩ := inv_lst r; exact .base (.lst h1)
  · cases r with
    | box hn _ _ =>
      obtain ⟨l, hl⟩ := w.lst (List.mem_of_getElem? hn)
      exact .base (.lst hl)
  · cases r with
    | ro hq _ _ =>
      rcases hq with ⟨o, hq⟩ | ⟨o, its, n, h1, h2, _⟩
      · exact .base (.frz hq)
      · exact .kList h1 h2
theorem v_isi : OpV K mg (rIsi K) gIsi := by
  intro ρ s H ds vs a f d w r h e Q q
  unfold Zm.gIsi at e
  split at e
  · rw [Option.bind_eq_some_iff] at e
    obtain ⟨n, e1, e2⟩ := e
    split at e2
    · rename_i z
      cases e2
      obtain ⟨v1, v2, _, _, _, _, rfl, r1, r2, _⟩ := r.inv2
      cases r2 with
      | ty _ _ => exact ⟨_, _, _, _, _, rfl, .ty _, isi_ty w e1 r1, kit_ty (kit_known e1 z), fin_bl q⟩
    · cases e2
  · cases e
theorem v_isi2 : OpV K mg (rIsiT K) gIsi2 := by
  intro ρ s H ds vs a f d w r h e Q q
  unfold Zm.gIsi2 at e
  split at e
  · rw [Option.bind_eq_some_iff] at e
    obtain ⟨n, e1, e2⟩ := e
    split at e2
    · rename_i z
      cases e2
      obtain ⟨v1, v2, _, _, _, _, rfl, r1, r2, _⟩ := r.inv2
      obtain ⟨p1, vs1, rfl, h1, t1⟩ := inv_tup r2
      obtain ⟨u1, u2, _, _, _, _, rfl, q1, q2, _⟩ := t1.inv2
      cases q1; cases q2
      refine ⟨_, _, _, _, _, _, rfl, h1, .cons (.ty _) (.cons (.ty _) .nil), isi_ty w e1 r1, ?_, fin_bl q⟩
      refine kitAny_cons (kit_ty (kit_known e1 z.1)) (fun hb => ?_) (fun hb => by rw [hb]; rfl)
      rw [hb, Bool.false_or]
      exact kitAny_cons (kit_ty (kit_known e1 z.2)) (fun hb => by rw [hb]; exact kitAny_nil) (fun hb => hb)
    · cases e2
  · cases e
/-- repr of anything but dicts -/
def rReprZ (K : PySem.W.Frag) : List V → Hp → VK → Prop := fun xs H Q => ∃ x d, xs = [x] ∧ Dp K H x d ∧ d.showable = true ∧ d.hasDict = false ∧ d.depth ≤ 60 ∧ d.shown.length ≤ sizeLine ∧ Q (.str d.shown) H
theorem cr_repr (hu : X.A.units + 64 < cLine) (hg : X.A.guards = some []) : CallR X (.builtin "repr") (rReprZ X.K) := by
  intro pins s σ H xs us Q I r h
  obtain ⟨x, d, rfl, hd, h1, h2, h3, h4, q⟩ := h
  obtain ⟨u, rfl, ru⟩ := vals1 r
  obtain ⟨as, rd⟩ := Dp.reads I d x u hd ru
  cases rd with
  | none => exact PySem.P.repr_of_none ⟨.str _, H, I.tok _, ⟨_, rfl⟩, q⟩
  | bool b =>
    refine PySem.P.repr_of_bool ⟨.str _, H, I.tok _, ⟨_, rfl⟩, ?_⟩
    cases b <;> (simp only [PyData.shown] at q; exact q)
  | int i t =>
    have hz : i.natAbs.log2 < 1920 := by simpa [PyData.showable] using h1
    exact PySem.P.repr_of_int hz ⟨.str _, H, I.tok _, ⟨_, rfl⟩, by simpa only [PyData.shown] using q⟩
  | str z t => exact PySem.P.repr_of_str ⟨.str _, H, I.tok _, ⟨_, rfl⟩, by simpa only [PyData.shown] using q⟩ (by simpa only [PyData.shown] using h4)
  | list e1 e2 e3 e4 => exact repr_of_reads' (.list e1 e2 e3 e4) h1 (PyData.noDict_hsm h2) hg (by omega) (fun _ _ z => z) (fun h' u tk hk => ⟨.str _, H, I.kept hk, ⟨_, rfl⟩, q⟩) h4
  | tuple e1 e2 e3 e4 => exact repr_of_reads' (.tuple e1 e2 e3 e4) h1 (PyData.noDict_hsm h2) hg (by omega) (fun _ _ z => z) (fun h' u tk hk => ⟨.str _, H, I.kept hk, ⟨_, rfl⟩, q⟩) h4
  | dict _ _ _ _ _ => simp [PyData.hasDict] at h2
theorem v_repr : OpV K mg (rReprZ K) gRepr := by
  intro ρ s H ds vs a f d w r h e Q q
  unfold Zm.gRepr at e
  split at e
  · rw [Option.bind_eq_some_iff] at e
    obtain ⟨x, e1, e2⟩ := e
    split at e2
    · rename_i z
      cases e2
      obtain ⟨v1, rfl, r1⟩ := r.inv1
      exact ⟨_, x, rfl, r1.dp e1, z.1, z.2.1, z.2.2.1, z.2.2.2, fin_str q⟩
    · cases e2
  · cases e
theorem v_str : OpV K mg (fun xs H Q => ∃ i, xs = [.int i] ∧ i.natAbs.log2 < 1920 ∧ Q (.str (toString i)) H) gStr := by
  intro ρ s H ds vs a f d w r h e Q q
  unfold Zm.gStr at e
  split at e
  · split at e
    · rename_i z
      cases e
      obtain ⟨v1, rfl, r1⟩ := r.inv1
      cases inv_int r1
      exact ⟨_, rfl, by have := sm_log z; omega, fin_str q⟩
    · cases e
  · cases e
theorem sorted_one : ∀ {xs ys : List Int}, xs.Perm ys → xs.Pairwise (· ≤ ·) → ys.Pairwise (· ≤ ·) → xs = ys
  | [], ys, h, _, _ => h.symm.eq_nil.symm
  | x :: xs, [], h, _, _ => by have := h.length_eq; simp at this
  | x :: xs, y :: ys, h, h1, h2 => by
    have e : x = y := by
      rw [List.pairwise_cons] at h1 h2
      have a : x ∈ y :: ys := h.subset List.mem_cons_self
      have b : y ∈ x :: xs := h.symm.subset List.mem_cons_self
      rcases List.mem_cons.mp a with a | a
      · exact a
      · rcases List.mem_cons.mp b with b | b
        · exact b.symm
        · have := h1.1 y b; have := h2.1 x a; omega
    subst e
    rw [List.pairwise_cons] at h1 h2
    rw [sorted_one (List.Perm.cons_inv h) h1.2 h2.2]
theorem v_sorted : OpV K mg (rSortedI K) gSorted := by
  intro ρ s H ds vs a f d w r h e Q q
  unfold Zm.gSorted at e
  split at e
  · rw [Option.map_eq_some_iff] at e
    obtain ⟨ns, e1, rfl⟩ := e
    obtain ⟨v1, rfl, r1⟩ := r.inv1
    obtain ⟨p1, rfl, hq⟩ := inv_ints w e1 r1
    refine ⟨p1, ns, rfl, hq, fun ns' p pm sr hp => ?_⟩
    have e : ns' = ns.mergeSort (fun a b => decide (a ≤ b)) := sorted_one (pm.trans (List.mergeSort_perm _ _).symm) sr ((List.pairwise_mergeSort (fun a b c h1 h2 => by simp at *; omega) (fun a b => by simp; omega) ns).imp fun h => of_decide_eq_true h)
    rw [e]
    obtain ⟨n1, n2⟩ := new_lst w hp (reps_ints (K := K) (mg := mg) (ns.mergeSort (fun a b => decide (a ≤ b)))) (fun x => ⟨Nat.zero_le _, fun z => no0 z⟩)
    exact q _ _ _ _ (same_upd hp) n1 (n2.le fun x => ⟨Nat.zero_le _, Nat.zero_le _⟩)
  · cases e
end
end Zm
set_option Elab.async false
set_option linter.all false
set_option maxRecDepth 100000
set_option autoImplicit false
/-! Z12: the law's own call. -/
namespace Zm
open PySem PySem.Spec PyProof.Rows L2
section
variable {P : Program} {w : World} {K : PySem.W.Frag} {mg mb : Str → Option Value}
/-- from a heap in which at most the script is tracked -/
theorem call_from {k : Nat} {fa a : Addr} {fd : FuncData} {x : Str} {sp : Sp} {s₁ : Shared} {vs : List Value} {ns : List Int} {H : Hp}
    (kx : K.In s₁.heap) (nsm : s₁.heap.Ns mainGlobals mg) (nsb : s₁.heap.Ns builtinsNs mb)
    (bb : ∀ x : Str, x ≠ "__name__" → mb x = bootBuiltins x) (lim : s₁.heap.NoLimit) (gg : s₁.gens = #[])
    (at_a : s₁.heap.get? a = some { cls := .type "list", data := .seq vs.toArray })
    (hr : Room k callerA)
    (F : ∀ base : Heap, K.In base → base.Ns mainGlobals mg → FnG P w K mg base k fa fd [x] sp)
    (bnd : ∀ (s : Shared) (u : Value), BindsTo s fd ⟨[u], []⟩ [(x, u)])
    (fz : ∀ b o, H b = some o → b = a ∧ K.lookup a = none ∧ ∃ ob xs, o = .frz ob (.lst xs)) (hok : HOk P w H s₁.heap)
    (want : sp [.ref a] H (fun v _ => v = .bl true) fun _ _ _ => False) :
    codeAny (model P w) callerA (.call (.ref fa) ⟨[.ref a], []⟩)
      (fun r s' => r = .ok (.ret (.bool true)) ∧ OldK s₁.heap s'.heap ∧ s'.os = s₁.os ∧ AllBare s'.gens) s₁ := by
  have untracked : ∀ {b : Addr} {o : Obj} {es : Array DictEntry} {ep : Nat}, s₁.heap.get? b = some o → o.data = .dict es ep → H b = none := by
    intro b o es ep e d
    match q : H b with
    | none => rfl
    | some u =>
      obtain ⟨rfl, _⟩ := fz b u q
      rw [at_a] at e
      cases e
      exact nomatch d
  have up : ∀ {b : Addr} {m : Str → Option Value}, s₁.heap.Ns b m → (hidT s₁.heap H).Ns b m := by
    rintro b m ⟨o, es, ep, e, d, r⟩
    exact ⟨o, es, ep, hidT_get e (untracked e d), d, r⟩
  have kb : K.In (hidT s₁.heap H) := by
    intro b o e
    refine hidT_get (kx b o e) ?_
    match q : H b with
    | none => rfl
    | some u =>
      obtain ⟨rfl, hk, _⟩ := fz b u q
      rw [hk] at e; cases e
  obtain ⟨mc, l1, l2⟩ := lim
  have md : Mod K mg (hidT s₁.heap H) := ⟨kb, up nsm, ⟨mb, up nsb, bb⟩, mc, up l1, l2⟩
  have none_in : ∀ b : Addr, b ∉ frs ([] : List PySem.Env) := fun b z => by simp [frs] at z
  have ent : Env0 P w K mg (hidT s₁.heap H) callerA [] s₁ H :=
    ⟨rfl, md, fun b o e => of_hidT e, Nat.le_of_eq (hidT_size _ _), trivial, fun b hb => (none_in b hb).elim, hok, .of_eq gg⟩
  have run := (F _ kb (up nsm)).run callerA [] s₁ H ⟨[.ref a], []⟩ [.ref a] [.ref a] _ _ hr rfl ent (bnd s₁ (.ref a)) (.cons rfl .nil) want
  refine codeAny_mono run ?_
  intro r s' h
  match r, h with
  | .error e, h =>
    obtain ⟨_, _, _, _, _, _, _, _, _, _, _, _, z⟩ := h
    exact z.elim
  | .ok .next, h => exact h.elim
  | .ok .brk, h => exact h.elim
  | .ok .cont, h => exact h.elim
  | .ok (.ret u), h =>
    obtain ⟨v, H', os, bare, un, hok', rel, q⟩ := h
    cases (show v = .bl true from q)
    cases (show u = Value.bool true from rel)
    refine ⟨rfl, OldK.of_keep ?_, os, bare⟩
    intro b o e
    match q : H b with
    | none => exact un.keep b o e q (none_in b) (by simp)
    | some u =>
      obtain ⟨_, _, ob, xs, rfl⟩ := fz b u q
      have after := (hok' b _ (un.frzs b ob _ q)).1
      have ahead := (hok b _ q).1
      rw [e] at ahead
      cases ahead
      exact after
theorem law_callG {k : Nat} {fa a : Addr} {fd : FuncData} {x : Str} {sp : Sp} {s₁ : Shared} {vs : List Value} {ns : List Int}
    (kx : K.In s₁.heap) (nsm : s₁.heap.Ns mainGlobals mg) (nsb : s₁.heap.Ns builtinsNs mb)
    (bb : ∀ x : Str, x ≠ "__name__" → mb x = bootBuiltins x) (lim : s₁.heap.NoLimit) (gg : s₁.gens = #[])
    (at_a : s₁.heap.get? a = some { cls := .type "list", data := .seq vs.toArray }) (ia : IntsAre vs ns) (hl : ns.length ≤ sizeLine)
    (hr : Room k callerA)
    (F : ∀ base : Heap, K.In base → base.Ns mainGlobals mg → FnG P w K mg base k fa fd [x] sp)
    (bnd : ∀ (s : Shared) (u : Value), BindsTo s fd ⟨[u], []⟩ [(x, u)])
    (hsp : ∀ H : Hp, SqR K H a (ns.map V.int) → sp [.ref a] H (fun v _ => v = .bl true) fun _ _ _ => False) :
    codeAny (model P w) callerA (.call (.ref fa) ⟨[.ref a], []⟩)
      (fun r s' => r = .ok (.ret (.bool true)) ∧ OldK s₁.heap s'.heap ∧ s'.os = s₁.os ∧ AllBare s'.gens) s₁ := by
  have rv := vals_ints ia
  have ln := ia.length
  match hk : K.lookup a with
  | some o =>
    have e := kx a o hk
    rw [at_a] at e
    cases e
    refine call_from (ns := ns) (H := fun _ => none) kx nsm nsb bb lim gg at_a hr F bnd (fun b o z => nomatch z) (fun b o z => nomatch z) (hsp _ (.inr ⟨_, vs.toArray, _, hk, rfl, rfl, rfl, ?_, by simpa using rv⟩))
    rw [List.size_toArray, ln]
    exact hl
  | none =>
    let ob : Obj := { cls := .type "list", data := .seq vs.toArray }
    let H : Hp := fun b => if b = a then some (.frz ob (.lst (ns.map V.int))) else none
    have onA : H a = some (.frz ob (.lst (ns.map V.int))) := if_pos rfl
    have cas : ∀ b o, H b = some o → b = a ∧ o = .frz ob (.lst (ns.map V.int)) := by
      intro b o z
      by_cases hb : b = a
      · subst hb
        rw [onA] at z
        exact ⟨rfl, (Option.some.inj z).symm⟩
      · have : H b = none := if_neg hb
        rw [this] at z; cases z
    refine call_from (ns := ns) (H := H) kx nsm nsb bb lim gg at_a hr F bnd (fun b o z => ?_) (fun b o z => ?_) (hsp H (.inl ⟨ob, onA⟩))
    · obtain ⟨rfl, rfl⟩ := cas b o z
      exact ⟨rfl, hk, _, _, rfl⟩
    · obtain ⟨rfl, rfl⟩ := cas b o z
      exact ⟨at_a, by rw [List.length_map]; exact hl, vs, _, rv, at_a⟩
end
/-- the end of a law's row -/
theorem walk_ofG {l : PySem.W.OpenLaw} {n k : Nat} {q : Program} {loose : List Str} {XP : (Str → Option Value) → Heap → Prop} {YP : World → Heap → Prop} {d : DefRec} {K : Params → PySem.W.Frag} {m : Fn} {x : Str}
    (hn : l.most = some n) (hn2 : n ≤ sizeLine) (hdf : d.params.defaults = []) (hr : Room k callerA)
    (hY : ∀ (w : World) (h : Heap), YP w h → (K w.params).In h)
    (F : ∀ (w : World) (mg : Str → Option Value) (fa : Addr) (h : Heap), (K w.params).In h → h.Ns mainGlobals mg → mg d.name = some (.ref fa) →
      ∃ fd : FuncData, (∀ (s : Shared) (u : Value), BindsTo s fd ⟨[u], []⟩ [(x, u)]) ∧
        ∀ base : Heap, (K w.params).In base → base.Ns mainGlobals mg → FnG l.prog w (K w.params) mg base k fa fd [x] (spF (K w.params) mg m))
    (good : ∀ ns : List Int, ns.length ≤ n → ∃ s, m [.ro ns] [] = .ok (.bl true) s) :
    PySem.W.WalkO q loose XP YP l.row.toRowW d [] (fun f vs => PySem.call f vs) := by
  refine Att.attach_call hn hdf ?_
  intro w s₀ s₁ mg mb fa o pm cd doc a vs ns G Y ho hd hcd hmg hobj hints hlen hg
  have kx := hY w _ Y
  obtain ⟨fd, hb, hF⟩ := F w mg fa _ kx G.T.g hmg
  refine law_callG kx G.T.g G.T.b G.T.builtins G.T.nolimit hg hobj hints (Nat.le_trans hlen hn2) hr hF hb ?_
  intro H hS
  obtain ⟨s, hs⟩ := good ns hlen
  refine ⟨[.ro ns], [], [], c0, c0, ⟨rfl, .nil, fun n p xs e => by simp at e⟩, Reps.one (.ro hS (fun _ => rfl) (fun _ => rfl)), fun x => ⟨Nat.zero_le _, fun z => no0 z⟩, ?_⟩
  rw [hs]
  intro v H' ρ' a' f' _ _ rp _
  exact inv_bl rp
/-- a def of the top, as the head tells it -/
theorem mk_fun {K : PySem.W.Frag} {h : Heap} {mg : Str → Option Value} {x : Str} {st : Stmt} {f : Addr} {od an : Option Addr} {sl : Array (Option Value)} {oc kV dc pm cd ct : Value} (X : K.In h) (G : h.Ns mainGlobals mg)
    (a : PySem.W.nsIn K mainGlobals x = some (some (.ref f))) (l : K.lookup f = some ⟨oc, od, .func (PySem.W.fnOf x x (defArgs st) (defBody st) (defScope st) .none kV dc pm an cd ct), sl⟩)
    (c : PySem.W.codeIn K cd x = true) (k : PySem.W.keepIn K (.ref f) = true) : ∃ fd, mg x = some (.ref f) ∧ Fun K x x st f fd ∧ fd = PySem.W.fnOf x x (defArgs st) (defBody st) (defScope st) .none kV dc pm an cd ct :=
  ⟨_, PySem.W.mg_of X G a, fun_mk l c k, rfl⟩
end Zm
set_option Elab.async false
set_option linter.all false
set_option maxRecDepth 100000
set_option autoImplicit false
/-! Z13: what is never reached; lists written by methods and by places; targets of many names. -/
namespace Zm
open PySem PySem.Spec PyProof.Rows L2
@[simp] def mBadE : M := fun _ _ => .bad
@[simp] def mBadS : MS := fun _ _ => .bad
section
variable {X : Cx} {W : WX} {st : Stmt} {sts : List Stmt} {e : Expr}
theorem s_bad : SE X W e mBadE := ⟨fun pins s σ H Q I ⟨_, _, _, _, _, _, h⟩ => h.elim⟩
theorem ss_bad : SS X W st mBadS := ⟨fun pins s σ H D I ⟨_, _, _, _, _, _, h⟩ => h.elim⟩
theorem sss_bad : SSs X W sts mBadS := ⟨fun pins s σ H D I ⟨_, _, _, _, _, _, h⟩ => h.elim⟩
end
/-! ### the value may be frozen: then the mask's slots are, too -/
def mSetD (msk : List Bool) (i : Nat) (m : M) : MS := fun σ s => (m σ s).to σ fun d s' => if noF d = true then (if i < σ.length then .nx (σ.set i (some d)) s' else .bad) else mSetF msk i m σ s
theorem rS_or {K : PySem.W.Frag} {mg : Str → Option Value} {W : WX} {m m' m2 : MS} {D : Ends} {σ : L2.St} {H : Hp} {P : Prop} (h : rS K mg W m D σ H) (hm : ∀ σ s, m σ s = m' σ s ∨ m σ s = m2 σ s)
    (h1 : rS K mg W m' D σ H → P) (h2 : rS K mg W m2 D σ H → P) : P := by
  obtain ⟨σm, s, ρ, A, F, rel, h⟩ := h
  rcases hm σm s with e | e
  · exact h1 ⟨σm, s, ρ, A, F, rel, e ▸ h⟩
  · exact h2 ⟨σm, s, ρ, A, F, rel, e ▸ h⟩
theorem setD_or {msk : List Bool} {i : Nat} {m : M} (σ : Env) (s : Sto) : mSetD msk i m σ s = mSet i m σ s ∨ mSetD msk i m σ s = mSetF msk i m σ s := by
  unfold mSetD mSet
  cases m σ s with
  | bad => exact .inl rfl
  | ex x s1 => exact .inl rfl
  | ok d s1 =>
    simp only [R.to_ok]
    by_cases z : noF d = true
    · left; by_cases y : i < σ.length <;> simp [z, y]
    · right; simp [z]
section
variable {X : Cx} {W : WX} {e : Expr} {m : M} {pos pos' : Pos} {x : Str}
theorem ss_setD (i : Nat) (msk : List Bool) (nd : X.N.Nodup) (he : SE X W e m) (hi : X.N[i]? = some x := by rfl) (hx : Loc X.env.scope x := by first | exact .inl rfl | exact .inr rfl) (hs : swapsWith e (some (.Name x pos')) pos.line X.env = pure false := by rfl)
    (hf : X.fn x = true ∨ X.env.scope.names.lookup x = some .local := by first | exact .inl rfl | exact .inr rfl) : SS X W (.Assign [.Name x pos'] e pos) (mSetD msk i m) :=
  PS.imp (ps_set nd hi hx he hs hf) fun D σ H h => rS_or h setD_or set_end setF_end
end
/-! ### an owned list at a slot, its contents made anew of them and of arguments -/
abbrev UG := List D → List D → Option (List D)
def mUpdO (g : UG) (i : Nat) (ms : List M) : MS := fun σ s => match σ[i]? with
  | some (some (.lst true xs)) => (mArgs ms σ s).to σ fun ds s' => if noFs ds = true then (match g xs ds with
    | some ys => .nx (σ.set i (some (.lst true ys))) s'
    | none => .bad) else .bad
  | _ => .bad
def mUpdF (g : UG) (msk : List Bool) (i : Nat) (ms : List M) : MS := fun σ s => match (frzE msk σ)[i]? with
  | some (some (.lst true xs)) => (mArgs ms (restr msk σ) s).to σ fun ds s' => (match g xs (fzs ds) with
    | some ys => .nx ((frzE msk σ).set i (some (.lst true ys))) s'
    | none => .bad)
  | _ => .bad
def mUpd (g : UG) (msk : List Bool) (i : Nat) (ms : List M) : MS := fun σ s => match σ[i]? with
  | some (some (.lst true xs)) => (mArgs ms σ s).to σ fun ds s' => if noFs ds = true then (match g xs ds with
    | some ys => .nx (σ.set i (some (.lst true ys))) s'
    | none => .bad) else mUpdF g msk i ms σ s
  | _ => .bad
theorem upd_or {g : UG} {msk : List Bool} {i : Nat} {ms : List M} (σ : Env) (s : Sto) : mUpd g msk i ms σ s = mUpdO g i ms σ s ∨ mUpd g msk i ms σ s = mUpdF g msk i ms σ s := by
  unfold mUpd mUpdO
  split
  · rename_i xs hx
    cases mArgs ms σ s with
    | bad => exact .inl rfl
    | ex x s1 => exact .inl rfl
    | ok ds s1 =>
      simp only [R.to_ok]
      by_cases z : noFs ds = true
      · left; simp [z]
      · right; simp [z]
  · exact .inl rfl
/-- the contents' new values: of the old and of the arguments' -/
def UV (K : PySem.W.Frag) (mg : Str → Option Value) (r : Addr → List V → Hp → Hp → Prop) (g : UG) : Prop :=
  ∀ (H : Hp) (ρ : List Addr) (p : Addr) (xs ds ys : List D) (vs ws : List V) (a1 f1 a f : Cnt), H p = some (.lst vs) → Reps K mg H ρ xs vs a1 f1 → Reps K mg H ρ ds ws a f → g xs ds = some ys →
    ∃ vs' a' f', Reps K mg H ρ ys vs' a' f' ∧ (∀ x, a' x ≤ a1 x + a x ∧ f' x ≤ f1 x + f x) ∧ r p ws H (upd H p (.lst vs'))
section
variable {K : PySem.W.Frag} {mg : Str → Option Value} {W : WX} {H H' H1 : Hp} {ρ ρ' ρ1 : List Addr} {σm : Env} {σ : L2.St} {s s' s1 : Sto} {d e : D} {v : V} {A F A' F' A1 F1 a f Mc : Cnt} {D : Ends} {i : Nat} {g : UG} {ms : List M} {msk : List Bool} {r : Addr → List V → Hp → Hp → Prop}
theorem updO_end (hv : UV K mg r g) (h : rS K mg W (mUpdO g i ms) D σ H) :
    ∃ p l, σ[i]? = some (some (.ref p)) ∧ H p = some (.lst l) ∧ rA K mg W (mArgs ms) σ H fun ws H1 => ∃ l' H2, H1 p = some (.lst l') ∧ r p ws H1 H2 ∧ D.nx σ H2 := by
  obtain ⟨σm, s, ρ, A, F, rel, h⟩ := h
  unfold mUpdO at h
  split at h
  · rename_i xs hσ
    obtain ⟨p, vs, a1, f1, A2, F2, e1, hp, r0, q, wr⟩ := rel.wr hσ
    refine ⟨p, vs, e1, hp, σm, s, ρ, A, F, rel, ?_⟩
    cases e : mArgs ms σm s with
    | bad => rw [e] at h; exact h
    | ex x s1 =>
      rw [e] at h
      exact fun cls dd H' ρ' fr wd rx => h cls dd σ H' ρ' A F fr.up (rel.next fr wd) .refl rx
    | ok ds s1 =>
      rw [e] at h
      intro ws H1 ρ1 a f fr wd rp gd
      simp only [R.to_ok] at h
      split at h
      · rename_i z
        have hf := rp.noF z
        have ev := rel.env.there
        split at h
        · rename_i ys hy
          obtain ⟨hp1, _, _⟩ := wr H1 ρ1 s1 xs vs a1 f1 fr wd (r0.on fr) fun x => by
            have := q x; have s0 := rel.sep x
            exact ⟨by omega, fun z => by have := s0.2 (by omega); omega⟩
          obtain ⟨vs', a', f', r', le, rr⟩ := hv H1 ρ1 p xs ds ys vs ws a1 f1 a f hp1 (r0.on fr) rp hy
          have sp : ∀ x, A x + a x ≤ 1 ∧ (1 ≤ A x + a x → F x = 0) ∧ (1 ≤ a x → H x = none) := fun x => by
            have s0 := rel.sep x
            obtain ⟨g1, g2, g3⟩ := gd x
            by_cases y : 1 ≤ a x
            · have hn := (g2 y).2
              have : ¬ 1 ≤ A x + F x := fun z => by obtain ⟨⟨o, ho⟩, _⟩ := ev x z; rw [hn] at ho; cases ho
              exact ⟨by omega, by omega, fun _ => hn⟩
            · exact ⟨by omega, fun z => s0.2 (by omega), fun z => by omega⟩
          obtain ⟨_, h2, h3⟩ := wr H1 ρ1 s1 ys vs' a' f' fr wd r' fun x => by
            have l := le x
            have q0 := q x
            have s0 := sp x
            have h0 := hf x
            refine ⟨by omega, fun z => ?_⟩
            have := s0.2.1 (by omega)
            omega
          refine ⟨vs, _, hp1, rr, h _ _ _ _ _ h2 h3 fun x => ?_⟩
          have l := le x
          have q0 := q x
          have s0 := sp x
          have h0 := hf x
          refine ⟨fun y => ?_, fun y => .inr (.inl (by omega))⟩
          by_cases w : 1 ≤ a x
          · exact .inr (s0.2.2 w)
          · exact .inl (by omega)
        · exact h.elim
      · exact h.elim
  · exact h.elim
theorem updF_end (hv : UV K mg r g) (h : rS K mg W (mUpdF g msk i ms) D σ H) :
    ∃ p l, σ[i]? = some (some (.ref p)) ∧ H p = some (.lst l) ∧ rA K mg W (mArgs ms) σ H fun ws H1 => ∃ l' H2, H1 p = some (.lst l') ∧ r p ws H1 H2 ∧ D.nx σ H2 := by
  obtain ⟨σm, s, ρ, A, F, rel, h⟩ := h
  unfold mUpdF at h
  split at h
  · rename_i xs hσ
    obtain ⟨Am, Fm, Ar, F2', r1, r2, qm⟩ := rel.mask (msk := msk)
    have rel2 : Rel K mg (frzE msk σm) s σ H ρ Ar F2' := ⟨r2, rel.wd, fun x => by
      have s0 := rel.sep x
      have q0 := qm x
      refine ⟨by omega, fun z => ?_⟩
      have := s0.2 (by omega)
      by_cases w : 1 ≤ F2' x
      · have := q0.2.2 w; omega
      · omega⟩
    obtain ⟨p, vs, a1, f1, A2, F2, e1, hp, r0, q, wr⟩ := rel2.wr hσ
    refine ⟨p, vs, e1, hp, _, s, ρ, Am, Fm, r1, ?_⟩
    cases e : mArgs ms (restr msk σm) s with
    | bad => rw [e] at h; exact h
    | ex x s1 =>
      rw [e] at h
      exact fun cls dd H' ρ' fr wd rx => h cls dd σ H' ρ' A F fr.up (rel.next fr wd) .refl rx
    | ok ds s1 =>
      rw [e] at h
      intro ws H1 ρ1 a f fr wd rp gd
      simp only [R.to_ok] at h
      obtain ⟨f0, rp', qf⟩ := rp.fz
      have ev := rel.env.there
      have key : ∀ x, 1 ≤ f0 x → 1 ≤ Am x ∨ 1 ≤ Fm x ∨ H x = none := fun x h => by
        have := qf x h
        obtain ⟨g1, g2, g3⟩ := gd x
        by_cases z : 1 ≤ a x
        · exact .inr (.inr (g2 z).2)
        · exact g3 (by omega)
      split at h
      · rename_i ys hy
        obtain ⟨hp1, _, _⟩ := wr H1 ρ1 s1 xs vs a1 f1 fr wd (r0.on fr) fun x => by
          have := q x; have s0 := rel2.sep x
          exact ⟨by omega, fun z => by have := s0.2 (by omega); omega⟩
        obtain ⟨vs', a', f', r', le, rr⟩ := hv H1 ρ1 p xs (fzs ds) ys vs ws a1 f1 c0 f0 hp1 (r0.on fr) rp' hy
        have sp : ∀ x, Ar x ≤ 1 ∧ (1 ≤ Ar x → F2' x = 0 ∧ f0 x = 0) := fun x => by
          have s0 := rel2.sep x
          have s1 := rel.sep x
          have q0 := qm x
          refine ⟨s0.1, fun y => ⟨s0.2 y, ?_⟩⟩
          cases w : f0 x with
          | zero => rfl
          | succ k =>
            rcases key x (by omega) with w | w | w
            · omega
            · have := s1.2 (by omega); omega
            · obtain ⟨⟨o, ho⟩, _⟩ := ev x (by omega)
              rw [w] at ho; cases ho
        obtain ⟨_, h2, h3⟩ := wr H1 ρ1 s1 ys vs' a' f' fr wd r' fun x => by
          have l := le x
          have q0 := q x
          have s0 := sp x
          have z0 : c0 x = 0 := rfl
          refine ⟨by omega, fun z => ?_⟩
          have := s0.2 (by omega)
          omega
        have frA : Fr A H (upd H1 p (.lst vs')) ρ ρ1 := h2.mono fun x y => .inl (by have := qm x; omega)
        refine ⟨vs, _, hp1, rr, h _ _ _ _ _ frA h3 fun x => ?_⟩
        have l := le x
        have q0 := q x
        have m0 := qm x
        have z0 : c0 x = 0 := rfl
        refine ⟨fun y => .inl (by omega), fun y => ?_⟩
        by_cases w : 1 ≤ f0 x
        · rcases key x w with w | w | w
          · exact .inl (by omega)
          · exact .inr (.inl (by omega))
          · exact .inr (.inr w)
        · have := m0.2.2 (by omega)
          omega
      · exact h.elim
  · exact h.elim
theorem upd_end (hv : UV K mg r g) (h : rS K mg W (mUpd g msk i ms) D σ H) :
    ∃ p l, σ[i]? = some (some (.ref p)) ∧ H p = some (.lst l) ∧ rA K mg W (mArgs ms) σ H fun ws H1 => ∃ l' H2, H1 p = some (.lst l') ∧ r p ws H1 H2 ∧ D.nx σ H2 :=
  rS_or h upd_or (updO_end hv) (updF_end hv)
end
end Zm
set_option Elab.async false
set_option linter.all false
set_option maxRecDepth 100000
set_option autoImplicit false
/-! Z14: the list's methods as statements; stores by place; many names at once. -/
namespace Zm
open PySem PySem.Spec PyProof.Rows L2
section
variable {K : PySem.W.Frag} {mg : Str → Option Value} {W : WX} {σ : L2.St} {H : Hp} {ms : List M}
theorem rA_mono {Q Q' : List V → Hp → Prop} (h : rA K mg W (mArgs ms) σ H Q) (q : ∀ v H', Q v H' → Q' v H') : rA K mg W (mArgs ms) σ H Q' := by
  obtain ⟨σm, s, ρ, A, F, rel, h⟩ := h
  refine ⟨σm, s, ρ, A, F, rel, ?_⟩
  cases e1 : mArgs ms σm s with
  | bad => rw [e1] at h; exact h
  | ex x s1 => rw [e1] at h; exact h
  | ok d s1 =>
    rw [e1] at h
    intro v H1 ρ1 a f fr wd rp g
    exact q _ _ (h v H1 ρ1 a f fr wd rp g)
end
abbrev rrM (rM : V → List V → Hp → VK → Prop) : Addr → List V → Hp → Hp → Prop := fun p ws H H2 => ∀ Q : VK, Q .non H2 → rM (.ref p) ws H Q
section
variable {X : Cx} {W : WX} {e : Expr} {es : List Expr} {m : M} {ms : List M} {pos pos' apos cpos : Pos} {x : Str} {name : Str} {id : String} {rM : V → List V → Hp → VK → Prop} {g : UG}
theorem ss_met (i : Nat) (msk : List Bool) (slot : Slot "list" name id) (hty : typeOf (.builtin id) = pure (.type "method_descriptor")) (hm : MtR X id rM) (hv : UV X.K X.mg (rrM rM) g) (ha : SA X W (e :: es) ms) (hN : X.N[i]? = some x := by rfl)
    (hvis : Vis X.env.scope x := by first | exact Or.inl rfl | exact Or.inr (Or.inl rfl) | exact Or.inr (Or.inr rfl)) (hd : (x == ("__debug__" : Str)) = false := by decide) (hcd : (x == ("__classdict__" : Str)) = false := by decide)
    (hst : starEach (e :: es) X.env = (false, eval e X.env) :: starEach es X.env := by rfl) (hplain : (backTo cpos (starEach es X.env)).any (·.1) = false := by rfl) (hline : (apos.endLine == cpos.line) = true := by rfl)
    (hfew : ((backTo cpos (starEach (e :: es) X.env)).all (fun x => !x.1) && (backToKw cpos (keywordEach [] X.env)).all (fun x => x.1.isSome) && decide ((e :: es).length + ([] : List Keyword).length + (if ([] : List Keyword).isEmpty then 0 else 1) < 30)) = true := by rfl)
    (hs : swapsWith (.Call (.Attribute (.Name x pos') name apos) (e :: es) [] cpos) none pos.line X.env = pure false := by rfl) :
    SS X W (.Expr (.Call (.Attribute (.Name x pos') name apos) (e :: es) [] cpos) pos) (mUpd g msk i ms) :=
  PS.imp (ps_expr (pe_bm PySem.F.plainAttrs_list slot hty hm (pe_var hN hvis hd hcd) ha (hbase := by rfl) (hfew := hfew) (hline := hline) (hs := hst) (hplain := hplain)) hs) fun D σ H h => by
    obtain ⟨p, l, e1, hp, h⟩ := upd_end hv h
    exact ⟨_, e1, .inl ⟨rfl, _, SqL.of hp⟩, rA_mono h fun ws H1 ⟨l', H2, _, rr, q⟩ => rr _ q⟩
theorem ss_met0 (i : Nat) (slot : Slot "list" name id) (hty : typeOf (.builtin id) = pure (.type "method_descriptor")) (hm : MtR X id rM) (hv : UV X.K X.mg (rrM rM) g) (hN : X.N[i]? = some x := by rfl)
    (hvis : Vis X.env.scope x := by first | exact Or.inl rfl | exact Or.inr (Or.inl rfl) | exact Or.inr (Or.inr rfl)) (hd : (x == ("__debug__" : Str)) = false := by decide) (hcd : (x == ("__classdict__" : Str)) = false := by decide)
    (hline : (apos.endLine == cpos.line) = true := by rfl)
    (hs : swapsWith (.Call (.Attribute (.Name x pos') name apos) [] [] cpos) none pos.line X.env = pure false := by rfl) :
    SS X W (.Expr (.Call (.Attribute (.Name x pos') name apos) [] [] cpos) pos) (mUpd g [] i []) :=
  PS.imp (ps_expr (pe_bm0 PySem.F.plainAttrs_list slot hty hm (pe_var hN hvis hd hcd) (hbase := by rfl) (hline := hline)) hs) fun D σ H h => by
    obtain ⟨p, l, e1, hp, h⟩ := upd_end hv h
    obtain ⟨l', H2, _, rr, q⟩ := rA_nil h
    exact ⟨_, e1, .inl ⟨rfl, _, SqL.of hp⟩, rr _ q⟩
end
def uApp : UG := fun xs ds => match ds with
  | [d] => if xs.length < sizeLine then some (xs ++ [d]) else none
  | _ => none
def uExt : UG := fun xs ds => match ds with
  | [.lst _ ys] => if xs.length + ys.length ≤ sizeLine then some (xs ++ ys) else none
  | _ => none
def uRev : UG := fun xs ds => match ds with
  | [] => some xs.reverse
  | _ => none
def uIns : UG := fun xs ds => match ds with
  | [.int i, d] => if xs.length < sizeLine ∧ 0 ≤ i ∧ i < 2 ^ 63 then some (xs.take i.toNat ++ d :: xs.drop i.toNat) else none
  | _ => none
def uPop : UG := fun xs ds => match ds with
  | [] => if xs = [] then none else some xs.dropLast
  | _ => none
section
variable {K : PySem.W.Frag} {mg : Str → Option Value}
theorem u_app : UV K mg (rrM rAppend) uApp := by
  intro H ρ p xs ds ys vs ws a1 f1 a f hp r1 r2 e
  unfold uApp at e
  split at e
  · split at e
    · rename_i z
      cases e
      obtain ⟨v, rfl, rv⟩ := r2.inv1
      exact ⟨vs ++ [v], _, _, r1.append r2, fun x => ⟨Nat.le_refl _, Nat.le_refl _⟩, fun Q q => ⟨p, vs, v, rfl, rfl, hp, by rw [← r1.length]; exact z, q⟩⟩
    · cases e
  · cases e
theorem Rep.lstI {H : Hp} {ρ : List Addr} {o : Bool} {ys : List D} {v : V} {a f : Cnt} (r : Rep K mg H ρ (.lst o ys) v a f) : ∃ b us a' f', v = .ref b ∧ H b = some (.lst us) ∧ Reps K mg H ρ ys us a' f' ∧ ∀ x, a' x ≤ a x ∧ f' x ≤ f x := by
  cases o with
  | true =>
    cases r with
    | own hp hn t e => exact ⟨_, _, _, _, rfl, hp, t, fun x => by rw [e]; omega⟩
  | false =>
    cases r with
    | frz hp hn t e => exact ⟨_, _, _, _, rfl, hp, t, fun x => by rw [e]; omega⟩
theorem u_ext : UV K mg (rrM rExtend) uExt := by
  intro H ρ p xs ds ys vs ws a1 f1 a f hp r1 r2 e
  unfold uExt at e
  split at e
  · rename_i zs
    split at e
    · rename_i z
      cases e
      obtain ⟨v, rfl, rv⟩ := r2.inv1
      obtain ⟨b, us, a', f', rfl, hb, ru, le⟩ := rv.lstI
      exact ⟨vs ++ us, _, _, r1.append ru, fun x => by have := le x; show _ + _ ≤ _ ∧ _ + _ ≤ _; omega, fun Q q => ⟨p, b, vs, us, rfl, rfl, hp, hb, by rw [← r1.length, ← ru.length]; exact z, q⟩⟩
    · cases e
  · cases e
theorem u_rev : UV K mg (rrM rReverse) uRev := by
  intro H ρ p xs ds ys vs ws a1 f1 a f hp r1 r2 e
  unfold uRev at e
  split at e
  · cases e
    obtain ⟨rfl, _⟩ := r2.inv0
    exact ⟨vs.reverse, _, _, r1.reverse, fun x => by omega, fun Q q => ⟨p, vs, rfl, rfl, hp, q⟩⟩
  · cases e
end
section
variable {X : Cx} {W : WX} {e : Expr} {m : M} {pos pos' apos cpos : Pos} {x : Str}
theorem ss_appD (i : Nat) (msk : List Bool) (he : SE X W e m) (hN : X.N[i]? = some x := by rfl) (hvis : Vis X.env.scope x := by first | exact Or.inl rfl | exact Or.inr (Or.inl rfl) | exact Or.inr (Or.inr rfl)) (hd : (x == ("__debug__" : Str)) = false := by decide) (hcd : (x == ("__classdict__" : Str)) = false := by decide)
    (hst : starEach [e] X.env = [(false, eval e X.env)] := by rfl) (hline : (apos.endLine == cpos.line) = true := by rfl) (hs : swapsWith (.Call (.Attribute (.Name x pos') "append" apos) [e] [] cpos) none pos.line X.env = pure false := by rfl) :
    SS X W (.Expr (.Call (.Attribute (.Name x pos') "append" apos) [e] [] cpos) pos) (mUpd uApp msk i [m]) :=
  ss_met i msk PySem.F.slot_list_append PySem.F.type_list_append mt_append u_app (sa_cons he sa_nil hst) hN hvis hd hcd hst rfl hline (by rw [hst]; rfl) hs
theorem ss_ext (i : Nat) (msk : List Bool) (he : SE X W e m) (hN : X.N[i]? = some x := by rfl) (hvis : Vis X.env.scope x := by first | exact Or.inl rfl | exact Or.inr (Or.inl rfl) | exact Or.inr (Or.inr rfl)) (hd : (x == ("__debug__" : Str)) = false := by decide) (hcd : (x == ("__classdict__" : Str)) = false := by decide)
    (hst : starEach [e] X.env = [(false, eval e X.env)] := by rfl) (hline : (apos.endLine == cpos.line) = true := by rfl) (hs : swapsWith (.Call (.Attribute (.Name x pos') "extend" apos) [e] [] cpos) none pos.line X.env = pure false := by rfl) :
    SS X W (.Expr (.Call (.Attribute (.Name x pos') "extend" apos) [e] [] cpos) pos) (mUpd uExt msk i [m]) :=
  ss_met i msk PySem.F.slot_list_extend PySem.F.type_list_extend mt_extend u_ext (sa_cons he sa_nil hst) hN hvis hd hcd hst rfl hline (by rw [hst]; rfl) hs
theorem ss_reverse (i : Nat) (hN : X.N[i]? = some x := by rfl) (hvis : Vis X.env.scope x := by first | exact Or.inl rfl | exact Or.inr (Or.inl rfl) | exact Or.inr (Or.inr rfl)) (hd : (x == ("__debug__" : Str)) = false := by decide) (hcd : (x == ("__classdict__" : Str)) = false := by decide)
    (hline : (apos.endLine == cpos.line) = true := by rfl) (hs : swapsWith (.Call (.Attribute (.Name x pos') "reverse" apos) [] [] cpos) none pos.line X.env = pure false := by rfl) :
    SS X W (.Expr (.Call (.Attribute (.Name x pos') "reverse" apos) [] [] cpos) pos) (mUpd uRev [] i []) :=
  ss_met0 i PySem.F.slot_list_reverse PySem.F.type_list_reverse mt_reverse u_rev hN hvis hd hcd hline hs
end
/-! ### x[k] = e, x an owned list or a box -/
def uSet : UG := fun xs ds => match ds with
  | [d, .int k] => match ixN xs.length k with
    | some j => some (xs.set j d)
    | none => none
  | _ => none
def mStB (i : Nat) (mi m : M) : MS := fun σ s => match σ[i]? with
  | some (some (.box n)) => (mArgs [m, mi] σ s).to σ fun ds s' => match s'[n]? with
    | some xs => match uSet xs ds with
      | some ys => if plains ys = true then .nx σ (s'.set n ys) else .bad
      | none => .bad
    | none => .bad
  | _ => .bad
def mSt (msk : List Bool) (i : Nat) (mi m : M) : MS := fun σ s => match σ[i]? with
  | some (some (.box n)) => (mArgs [m, mi] σ s).to σ fun ds s' => match s'[n]? with
    | some xs => match uSet xs ds with
      | some ys => if plains ys = true then .nx σ (s'.set n ys) else .bad
      | none => .bad
    | none => .bad
  | _ => mUpd uSet msk i [m, mi] σ s
theorem st_or {msk : List Bool} {i : Nat} {m mi : M} (σ : Env) (s : Sto) : mSt msk i mi m σ s = mStB i mi m σ s ∨ mSt msk i mi m σ s = mUpd uSet msk i [m, mi] σ s := by
  unfold mSt mStB
  split
  · rename_i n h; exact .inl rfl
  · exact .inr rfl
abbrev rrS : Addr → List V → Hp → Hp → Prop := fun p ws H H2 => ∃ y k, ws = [y, k] ∧ ∀ Q : Hp → Prop, Q H2 → rSetL (.ref p) k y H Q
section
variable {K : PySem.W.Frag} {mg : Str → Option Value} {W : WX} {H H' H1 : Hp} {ρ ρ' ρ1 : List Addr} {σm : Env} {σ : L2.St} {s s' s1 : Sto}
theorem ixN_lt {n j : Nat} {k : Int} (h : ixN n k = some j) : j < n := (ixN_seq h).2.1
theorem u_set : UV K mg rrS uSet := by
  intro H ρ p xs ds ys vs ws a1 f1 a f hp r1 r2 e
  unfold uSet at e
  split at e
  · rename_i d k
    split at e
    · rename_i j hj
      cases e
      obtain ⟨v, u, ax, fx, ay, fy, rfl, rv, ru, q⟩ := r2.inv2
      cases ru
      have hl := ixN_lt hj
      obtain ⟨w, a0, f0, h1, h2, A', F', h3, h4⟩ := r1.set (i := j) (d := xs[j]) (List.getElem?_eq_getElem hl) rv
      exact ⟨vs.set j v, A', F', h3, fun x => by have := h4 x; have := q x; omega, v, _, rfl, fun Q q => ⟨p, vs, k, j, rfl, rfl, hp, by rw [← r1.length]; exact hj, q⟩⟩
    · cases e
  · cases e
/-- a box written -/
theorem wd_box {n : Nat} {p : Addr} {xs ys : List D} {l l' : List V} {a f : Cnt} (wd : Wd K mg ρ s H) (hn : ρ[n]? = some p) (hs : s[n]? = some xs) (hp : H p = some (.lst l)) (hy : plains ys = true) (r : Reps K mg H ρ ys l' a f) : Wd K mg ρ (s.set n ys) (upd H p (.lst l')) ∧ Fr c0 H (upd H p (.lst l')) ρ ρ := by
  have hm : p ∈ ρ := List.mem_of_getElem? hn
  have fr : Fr c0 H (upd H p (.lst l')) ρ ρ := by
    refine ⟨fun x o q => ?_, fun x q => ?_, [], by simp, by simp⟩
    · by_cases z : x = p
      · subst z
        rw [hp] at q; cases q
        exact .inr ⟨⟨_, rfl⟩, .inl hm⟩
      · rw [upd_ne z]; exact .inl q
    · by_cases z : x = p
      · subst z; rw [upd_same] at q; cases q
      · rw [upd_ne z] at q; exact q
  have hnl : n < s.length := (List.getElem?_eq_some_iff.mp hs).1
  refine ⟨⟨by rw [List.length_set]; exact wd.len, wd.nd, fun k b zs z1 z2 => ?_⟩, fr⟩
  by_cases e : k = n
  · subst e
    rw [hn] at z1; cases z1
    rw [List.getElem?_set_self hnl] at z2; cases z2
    exact ⟨hy, l', a, f, upd_same, r.on fr⟩
  · rw [List.getElem?_set_ne (fun z => e z.symm)] at z2
    obtain ⟨w1, ws, a', f', w2, w3⟩ := wd.at_ k b zs z1 z2
    have nb : b ≠ p := fun z => by
      subst z
      have h1 := List.getElem?_eq_some_iff.mp z1
      have h2 := List.getElem?_eq_some_iff.mp hn
      obtain ⟨i1, q1⟩ := h1
      obtain ⟨i2, q2⟩ := h2
      have hnd := List.pairwise_iff_getElem.mp wd.nd
      rcases Nat.lt_trichotomy k n with w | w | w
      · exact hnd k n i1 i2 w (q1.trans q2.symm)
      · exact e w
      · exact hnd n k i2 i1 w (q2.trans q1.symm)
    exact ⟨w1, ws, a', f', by rw [upd_ne nb]; exact w2, w3.on fr⟩
theorem rA_2' {ma mb : M} {Q : List V → Hp → Prop} (h : rA K mg W (mArgs [ma, mb]) σ H Q) : rE K mg W ma σ H fun x H1 => rE K mg W mb σ H1 fun y H2 => Q [x, y] H2 := rA_2 h
theorem stB_end {i : Nat} {m mi : M} {D : Ends} (h : rS K mg W (mStB i mi m) D σ H) :
    ∃ p, σ[i]? = some (some (.ref p)) ∧ rA K mg W (mArgs [m, mi]) σ H fun ws H1 => ∃ H2, rrS p ws H1 H2 ∧ D.nx σ H2 := by
  obtain ⟨σm, s, ρ, A, F, rel, h⟩ := h
  unfold mStB at h
  split at h
  · rename_i n hσ
    obtain ⟨v, a0, f0, e1, rp0, _⟩ := rel.env.get hσ
    cases rp0 with
    | @box _ p _ _ hn _ _ =>
      refine ⟨p, e1, σm, s, ρ, A, F, rel, ?_⟩
      cases e : mArgs [m, mi] σm s with
      | bad => rw [e] at h; exact h
      | ex x s1 =>
        rw [e] at h
        exact fun cls dd H' ρ' fr wd rx => h cls dd σ H' ρ' A F fr.up (rel.next fr wd) .refl rx
      | ok ds s1 =>
        rw [e] at h
        intro ws H1 ρ1 a f fr wd rp gd
        simp only [R.to_ok] at h
        split at h
        · rename_i xs hxs
          split at h
          · rename_i ys hys
            split at h
            · rename_i hpl
              obtain ⟨pl, vs, a1, f1, hp, r1⟩ := wd.at_ n p xs (fr.get hn) hxs
              obtain ⟨vs', a', f', r', le, rr⟩ := u_set H1 ρ1 p xs ds ys vs ws a1 f1 a f hp r1 rp hys
              obtain ⟨wd2, fr2⟩ := wd_box wd (fr.get hn) hxs hp hpl r'
              refine ⟨_, rr, h _ _ _ _ _ ((fr.tr fr2).up) ((rel.next fr wd).next fr2 wd2) .refl⟩
            · exact h.elim
          · exact h.elim
        · exact h.elim
  · exact h.elim
theorem st_end {msk : List Bool} {i : Nat} {m mi : M} {D : Ends} (h : rS K mg W (mSt msk i mi m) D σ H) :
    ∃ p, σ[i]? = some (some (.ref p)) ∧ rA K mg W (mArgs [m, mi]) σ H fun ws H1 => ∃ H2, rrS p ws H1 H2 ∧ D.nx σ H2 :=
  rS_or h st_or stB_end fun h => by
    obtain ⟨p, l, e1, hp, h⟩ := upd_end u_set h
    exact ⟨p, e1, rA_mono h fun ws H1 ⟨l', H2, _, rr, q⟩ => ⟨H2, rr, q⟩⟩
end
section
variable {X : Cx} {W : WX} {e ei : Expr} {m mi : M} {pos pos' spos : Pos} {x : Str}
theorem ss_st (i : Nat) (msk : List Bool) (he : SE X W e m) (hi : SE X W ei mi) (hN : X.N[i]? = some x := by rfl) (hvis : Vis X.env.scope x := by first | exact Or.inl rfl | exact Or.inr (Or.inl rfl) | exact Or.inr (Or.inr rfl)) (hd : (x == ("__debug__" : Str)) = false := by decide) (hcd : (x == ("__classdict__" : Str)) = false := by decide)
    (ha : ∀ v, assign (.Subscript (.Name x pos') ei spos) X.env v = (do
      let ov ← holding [v] (eval (.Name x pos') X.env)
      let iv ← holding [v, ov] (eval ei X.env)
      standAt spos
      holding [v, ov, iv] (setItem ov iv v)
      release [v, ov, iv] []) := by intro _; rfl)
    (hs : swapsWithSole [.Subscript (.Name x pos') ei spos] e pos.line X.env = pure false := by rfl) (hw : swappedStores [.Subscript (.Name x pos') ei spos] e X.env = pure none := by rfl)
    (h1 : (assignEach [.Subscript (.Name x pos') ei spos] X.env).map (·.2) = [assign (.Subscript (.Name x pos') ei spos) X.env] := by rfl) :
    SS X W (.Assign [.Subscript (.Name x pos') ei spos] e pos) (mSt msk i mi m) :=
  PS.imp (ps_asg he (pg_sub (pe_var hN hvis hd hcd) hi set_list ha) hs hw h1) fun D σ H h => by
    obtain ⟨p, e1, h⟩ := st_end h
    exact rE_mono (rA_2 h) fun v H1 q => ⟨_, e1, rE_mono q fun u H2 ⟨H3, ⟨y, k, e, rr⟩, q⟩ => by cases e; exact rr _ q⟩
end
end Zm
set_option Elab.async false
set_option linter.all false
set_option maxRecDepth 100000
set_option autoImplicit false
/-! Z15: sum, max, min of tuples; names stored side by side. -/
namespace Zm
open PySem PySem.Spec PyProof.Rows L2
def rMaxT (K : PySem.W.Frag) : List V → Hp → VK → Prop := fun vs H Q => ∃ (p : Addr) (n : Int) (ns : List Int), vs = [V.ref p] ∧ SqT K H p ((n :: ns).map V.int) ∧ Q (.int (ns.foldl max n)) H
def rMinT (K : PySem.W.Frag) : List V → Hp → VK → Prop := fun vs H Q => ∃ (p : Addr) (n : Int) (ns : List Int), vs = [V.ref p] ∧ SqT K H p ((n :: ns).map V.int) ∧ Q (.int (ns.foldl min n)) H
def rSumT (K : PySem.W.Frag) : List V → Hp → VK → Prop := fun vs H Q => ∃ (p : Addr) (ns : List Int), vs = [V.ref p] ∧ SqT K H p (ns.map V.int) ∧ Q (.int ns.sum) H
theorem dp_ints {K : PySem.W.Frag} {H : Hp} : ∀ ns : List Int, DpAll K H (ns.map V.int) (ns.map PyData.int)
  | [] => .nil
  | n :: ns => .cons (.int n) (dp_ints ns)
theorem alike_ints (ns : List Int) : PySem.W.AlikeAll (ns.map PyData.int) := by
  refine ⟨fun x hx y hy => ?_, fun x hx => ?_⟩
  · obtain ⟨i, _, rfl⟩ := List.mem_map.mp hx
    obtain ⟨j, _, rfl⟩ := List.mem_map.mp hy
    rfl
  · obtain ⟨i, _, rfl⟩ := List.mem_map.mp hx
    exact fun z => by cases z
theorem depth_ints : ∀ ns : List Int, PyData.depthAll (ns.map PyData.int) ≤ 1 := by
  intro ns
  induction ns with
  | nil => decide
  | cons n ns ih => rw [List.map_cons, PyData.depthAll]; simp only [PyData.depth]; omega
section
variable {X : Cx}
theorem cr_maxT (hc : X.calm = true) (hu : X.A.units + 64 < cLine) : CallR X (.builtin "max") (rMaxT X.K) := by
  intro pins s σ H xs us Q I r h
  obtain ⟨p, n, ns, rfl, hs, q⟩ := h
  obtain ⟨its, rv, ht, hz⟩ := I.tuple hs
  rw [Vals.ref1 r]
  obtain ⟨as, rd⟩ := Dp.readsAll I ((n :: ns).map PyData.int) _ its (dp_ints _) rv
  refine PySem.W.max_tuple_data (I.ok.hd hc) ht rd (alike_ints (n :: ns)) (by have := depth_ints (n :: ns); rw [List.map_cons] at this; omega) fun i v h' tk bs hv rv' hk => ?_
  rw [PySem.W.maxD_ints] at rv'
  cases rv' with
  | int _ t => exact ⟨.int _, H, I.kept hk, ⟨_, rfl⟩, q⟩
theorem cr_minT (hc : X.calm = true) (hu : X.A.units + 64 < cLine) : CallR X (.builtin "min") (rMinT X.K) := by
  intro pins s σ H xs us Q I r h
  obtain ⟨p, n, ns, rfl, hs, q⟩ := h
  obtain ⟨its, rv, ht, hz⟩ := I.tuple hs
  rw [Vals.ref1 r]
  obtain ⟨as, rd⟩ := Dp.readsAll I ((n :: ns).map PyData.int) _ its (dp_ints _) rv
  refine PySem.W.min_tuple_data (I.ok.hd hc) ht rd (alike_ints (n :: ns)) (by have := depth_ints (n :: ns); rw [List.map_cons] at this; omega) fun i v h' tk bs hv rv' hk => ?_
  rw [PySem.W.minD_ints] at rv'
  cases rv' with
  | int _ t => exact ⟨.int _, H, I.kept hk, ⟨_, rfl⟩, q⟩
theorem preSum_take (ns : List Int) : ∀ j, preSum (fun i => ns.getD i 0) j = (ns.take j).sum
  | 0 => by simp [preSum]
  | j + 1 => by
    rw [preSum, preSum_take ns j, List.take_add_one, List.sum_append]
    by_cases h : j < ns.length
    · simp [List.getD_eq_getElem?_getD, h]
    · simp [List.getD_eq_getElem?_getD, List.getElem?_eq_none (Nat.le_of_not_lt h)]
theorem cr_sumT (hc : X.calm = true) : CallR X (.builtin "sum") (rSumT X.K) := by
  intro pins s σ H xs us Q I r h
  obtain ⟨p, ns, rfl, hs, q⟩ := h
  obtain ⟨its, rv, ht, hz⟩ := I.tuple hs
  rw [Vals.ref1 r]
  refine PySem.call_sum_walkAnyS (PySem.W.iter_tupleW (A := X.A.in1) (I.ok.hd hc) ht fun s₂ e W st hfp hw hk => ?_)
  refine ⟨_, _, _, _, _, _, _, fun i => ns.getD i 0, rfl, W, st, hfp, fun i v hv => ?_, fun s' t' m => ?_⟩
  · have hl := rv.length
    rw [List.length_map] at hl
    have hi : i < ns.length := by
      have := (Array.getElem?_eq_some_iff.mp hv).1
      simp at this; omega
    obtain ⟨u, hu, ru⟩ := rv.get (i := i) (x := .int ns[i]) (by simp [hi])
    have : some u = some v := by rw [← hu]; simpa using hv
    cases this
    obtain ⟨t, rfl⟩ := ru
    exact ⟨t, by simp [List.getD_eq_getElem?_getD, hi]⟩
  · obtain ⟨h', tk, rfl, hk'⟩ := PySem.W.moved_old e rfl m
    have e2 : preSum (fun i => ns.getD i 0) its.toArray.size = ns.sum := by
      rw [preSum_take]
      have hl := rv.length
      rw [List.length_map] at hl
      simp [← hl]
    exact ⟨.int _, H, I.kept hk', ⟨t', by rw [e2]⟩, q⟩
end
theorem CallR.or {X : Cx} {f : Value} {r r' : List V → Hp → VK → Prop} (h : CallR X f r) (h' : CallR X f r') : CallR X f (fun vs H Q => r vs H Q ∨ r' vs H Q) := fun pins s σ H xs us Q I rv w => w.elim (h pins s σ H xs us Q I rv) (h' pins s σ H xs us Q I rv)
theorem OpV.or {K : PySem.W.Frag} {mg : Str → Option Value} {r r' : List V → Hp → VK → Prop} {g g' : Sto → List D → Option D} (h : OpV K mg r g) (h' : OpV K mg r' g') : OpV K mg (fun vs H Q => r vs H Q ∨ r' vs H Q) (fun s ds => match g s ds with
  | some d => some d
  | none => g' s ds) := fun ρ s H ds vs a f d w rp sp e Q q => by
  dsimp only at e
  cases e1 : g s ds with
  | some d' => rw [e1] at e; cases e; exact .inl (h ρ s H ds vs a f _ w rp sp e1 Q q)
  | none => rw [e1] at e; exact .inr (h' ρ s H ds vs a f d w rp sp e Q q)
def gMaxT : Sto → List D → Option D := fun _ ds => match ds with
  | [.tup xs] => match toInts xs with
    | some (n :: ns) => some (.int (ns.foldl max n))
    | _ => none
  | _ => none
def gMinT : Sto → List D → Option D := fun _ ds => match ds with
  | [.tup xs] => match toInts xs with
    | some (n :: ns) => some (.int (ns.foldl min n))
    | _ => none
  | _ => none
def gSumT : Sto → List D → Option D := fun _ ds => match ds with
  | [.tup xs] => (toInts xs).map fun ns => .int ns.sum
  | _ => none
section
variable {K : PySem.W.Frag} {mg : Str → Option Value}
theorem inv_tupI {H : Hp} {ρ : List Addr} {xs : List D} {ns : List Int} {v : V} {a f : Cnt} (e : toInts xs = some ns) (r : Rep K mg H ρ (.tup xs) v a f) : ∃ p, v = .ref p ∧ SqT K H p (ns.map V.int) := by
  obtain ⟨p, vs, rfl, h, t⟩ := inv_tup r
  have := toInts_eq e
  subst this
  rw [Reps.ints t] at h
  exact ⟨p, rfl, SqT.of h⟩
theorem v_maxT : OpV K mg (rMaxT K) gMaxT := by
  intro ρ s H ds vs a f d w r h e Q q
  unfold Zm.gMaxT at e
  split at e
  · split at e
    · rename_i n ns e1
      cases e
      obtain ⟨v1, rfl, r1⟩ := r.inv1
      obtain ⟨p, rfl, hq⟩ := inv_tupI e1 r1
      exact ⟨p, n, ns, rfl, hq, fin_int q⟩
    · cases e
  · cases e
theorem v_minT : OpV K mg (rMinT K) gMinT := by
  intro ρ s H ds vs a f d w r h e Q q
  unfold Zm.gMinT at e
  split at e
  · split at e
    · rename_i n ns e1
      cases e
      obtain ⟨v1, rfl, r1⟩ := r.inv1
      obtain ⟨p, rfl, hq⟩ := inv_tupI e1 r1
      exact ⟨p, n, ns, rfl, hq, fin_int q⟩
    · cases e
  · cases e
theorem v_sumT : OpV K mg (rSumT K) gSumT := by
  intro ρ s H ds vs a f d w r h e Q q
  unfold Zm.gSumT at e
  split at e
  · rw [Option.map_eq_some_iff] at e
    obtain ⟨ns, e1, rfl⟩ := e
    obtain ⟨v1, rfl, r1⟩ := r.inv1
    obtain ⟨p, rfl, hq⟩ := inv_tupI e1 r1
    exact ⟨p, ns, rfl, hq, fin_int q⟩
  · cases e
end
def gMaxA : Sto → List D → Option D := fun s ds => match gMaxL s ds with
  | some d => some d
  | none => gMaxT s ds
def gMinA : Sto → List D → Option D := fun s ds => match gMinL s ds with
  | some d => some d
  | none => gMinT s ds
def gSumA : Sto → List D → Option D := fun s ds => match gSum s ds with
  | some d => some d
  | none => gSumT s ds
/-! ### a, b = x, y -/
def mPar2 (msk : List Bool) (i j : Nat) (ms : List M) : MS := fun σ s => (mArgs ms σ s).to σ fun ds s' => match ds with
  | [d, e] => if noF d = true ∧ noF e = true then (if i < σ.length ∧ j < σ.length then .nx ((σ.set i (some d)).set j (some e)) s' else .bad) else
    (mArgs ms (restr msk σ) s).to σ fun ds s' => match ds with
      | [d, e] => if i < σ.length ∧ j < σ.length then .nx (((frzE msk σ).set i (some (fz d))).set j (some (fz e))) s' else .bad
      | _ => .bad
  | _ => .bad
def mPar2O (i j : Nat) (ms : List M) : MS := fun σ s => (mArgs ms σ s).to σ fun ds s' => match ds with
  | [d, e] => if noF d = true ∧ noF e = true then (if i < σ.length ∧ j < σ.length then .nx ((σ.set i (some d)).set j (some e)) s' else .bad) else .bad
  | _ => .bad
def mPar2F (msk : List Bool) (i j : Nat) (ms : List M) : MS := fun σ s => (mArgs ms (restr msk σ) s).to σ fun ds s' => match ds with
  | [d, e] => if i < σ.length ∧ j < σ.length then .nx (((frzE msk σ).set i (some (fz d))).set j (some (fz e))) s' else .bad
  | _ => .bad
theorem par2_or {msk : List Bool} {i j : Nat} {ms : List M} (σ : Env) (s : Sto) : mPar2 msk i j ms σ s = mPar2O i j ms σ s ∨ mPar2 msk i j ms σ s = mPar2F msk i j ms σ s := by
  unfold mPar2 mPar2O mPar2F
  cases mArgs ms σ s with
  | bad => exact .inl rfl
  | ex x s1 => exact .inl rfl
  | ok ds s1 =>
    simp only [R.to_ok]
    split
    · rename_i d e
      by_cases z : noF d = true ∧ noF e = true
      · left; simp [z]
      · right; rw [if_neg z]
    · exact .inl rfl
section
variable {K : PySem.W.Frag} {mg : Str → Option Value} {W : WX} {H H' H1 : Hp} {ρ ρ' ρ1 : List Addr} {σm : Env} {σ : L2.St} {s s' s1 : Sto} {d e : D} {v u : V} {A F A' F' A1 F1 a f Mc : Cnt} {D : Ends} {i j : Nat} {ms : List M} {msk : List Bool}
theorem par2O_end (h : rS K mg W (mPar2O i j ms) D σ H) : rA K mg W (mArgs ms) σ H fun vs H1 => ∃ v w, vs = [v, w] ∧ D.nx ((σ.set i (some v)).set j (some w)) H1 := by
  obtain ⟨σm, s, ρ, A, F, rel, h⟩ := h
  refine ⟨σm, s, ρ, A, F, rel, ?_⟩
  unfold mPar2O at h
  cases e : mArgs ms σm s with
  | bad => rw [e] at h; exact h
  | ex x s1 =>
    rw [e] at h
    exact fun cls dd H' ρ' fr wd rx => h cls dd σ H' ρ' A F fr.up (rel.next fr wd) .refl rx
  | ok ds s1 =>
    rw [e] at h
    intro ws H1 ρ1 a f fr wd rp gd
    simp only [R.to_ok] at h
    split at h
    · rename_i d e
      split at h
      · rename_i hz
        split at h
        · rename_i hl
          obtain ⟨v, w, ax, fx, ay, fy, rfl, rv, rw', q⟩ := rp.inv2
          have hf1 := rv.noF hz.1
          have hf2 := rw'.noF hz.2
          have r1 := rel.next fr wd
          obtain ⟨A1, F1, e1, l1, _⟩ := r1.env.set i rv hl.1
          obtain ⟨A2, F2, e2, l2, _⟩ := e1.set j rw' (by rw [List.length_set]; exact hl.2)
          have ev := rel.env.there
          have sp : ∀ x, (1 ≤ a x → H x = none ∧ A x = 0 ∧ F x = 0) := fun x y => by
            have hn := ((gd x).2.1 y).2
            have : ¬ 1 ≤ A x + F x := fun z => by obtain ⟨⟨o, ho⟩, _⟩ := ev x z; rw [hn] at ho; cases ho
            exact ⟨hn, by omega, by omega⟩
          refine ⟨v, w, rfl, h _ _ _ A2 F2 fr.up ⟨e2, wd, fun x => ?_⟩ fun x => ?_⟩
          · have := l1 x; have := l2 x; have := q x; have := hf1 x; have := hf2 x
            have s0 := rel.sep x
            have g1 := (gd x).1
            by_cases y : 1 ≤ a x
            · have := sp x y; omega
            · exact ⟨by omega, fun z => by have := s0.2 (by omega); omega⟩
          · have := l1 x; have := l2 x; have := q x; have := hf1 x; have := hf2 x
            refine ⟨fun y => ?_, fun y => .inr (.inl (by omega))⟩
            by_cases w : 1 ≤ a x
            · exact .inr (sp x w).1
            · exact .inl (by omega)
        · exact h.elim
      · exact h.elim
    · exact h.elim
theorem par2F_end (h : rS K mg W (mPar2F msk i j ms) D σ H) : rA K mg W (mArgs ms) σ H fun vs H1 => ∃ v w, vs = [v, w] ∧ D.nx ((σ.set i (some v)).set j (some w)) H1 := by
  obtain ⟨σm, s, ρ, A, F, rel, h⟩ := h
  obtain ⟨Am, Fm, Ar, F2', r1, r2, qm⟩ := rel.mask (msk := msk)
  refine ⟨_, s, ρ, Am, Fm, r1, ?_⟩
  unfold mPar2F at h
  cases e : mArgs ms (restr msk σm) s with
  | bad => rw [e] at h; exact h
  | ex x s1 =>
    rw [e] at h
    exact fun cls dd H' ρ' fr wd rx => h cls dd σ H' ρ' A F fr.up (rel.next fr wd) .refl rx
  | ok ds s1 =>
    rw [e] at h
    intro ws H1 ρ1 a f fr wd rp gd
    simp only [R.to_ok] at h
    split at h
    · rename_i d e
      split at h
      · rename_i hl
        obtain ⟨v, w, ax, fx, ay, fy, rfl, rv, rw', q⟩ := rp.inv2
        obtain ⟨f1, rv', qf1⟩ := rv.fz
        obtain ⟨f2, rw'', qf2⟩ := rw'.fz
        have e0 := r2.frame fr fun _ hx => no0 hx
        obtain ⟨A1, F1, e1, l1, _⟩ := e0.set i rv' (by rw [frzE_length]; exact hl.1)
        obtain ⟨A2, F2, e2, l2, _⟩ := e1.set j rw'' (by rw [List.length_set, frzE_length]; exact hl.2)
        have ev := rel.env.there
        have key : ∀ x, 1 ≤ f1 x + f2 x → 1 ≤ Am x ∨ 1 ≤ Fm x ∨ H x = none := fun x h => by
          have := qf1 x
          have := qf2 x
          obtain ⟨g1, g2, g3⟩ := gd x
          have := q x
          by_cases z : 1 ≤ a x
          · exact .inr (.inr (g2 z).2)
          · refine g3 ?_
            by_cases y : 1 ≤ f1 x
            · have := qf1 x y; omega
            · have := qf2 x (by omega); omega
        refine ⟨v, w, rfl, h _ _ _ A2 F2 fr.up ⟨e2, wd, fun x => ?_⟩ fun x => ?_⟩
        · have := l1 x; have := l2 x
          have z0 : c0 x = 0 := rfl
          have s0 := rel.sep x
          have q0 := qm x
          refine ⟨by omega, fun y => ?_⟩
          have hA : 1 ≤ A x := by omega
          have hF := s0.2 hA
          obtain ⟨⟨o, ho⟩, _⟩ := ev x (by omega)
          have h1 : F2' x = 0 := by
            cases z : F2' x with
            | zero => rfl
            | succ k => have := q0.2.2 (by omega); omega
          have h2 : ¬ 1 ≤ f1 x + f2 x := fun z => by
            rcases key x z with w | w | w
            · omega
            · omega
            · rw [w] at ho; cases ho
          omega
        · have := l1 x; have := l2 x
          have z0 : c0 x = 0 := rfl
          have q0 := qm x
          refine ⟨fun y => .inl (by omega), fun y => ?_⟩
          by_cases z : 1 ≤ f1 x + f2 x
          · rcases key x z with w | w | w
            · exact .inl (by omega)
            · exact .inr (.inl (by omega))
            · exact .inr (.inr w)
          · have := q0.2.2 (by omega)
            omega
      · exact h.elim
    · exact h.elim
end
section
variable {X : Cx} {W : WX} {a b : Expr} {ms : List M} {pos px py pt : Pos} {x y : Str} {kt k2 : Nat} {pt2 : Pos}
theorem ss_par2 (i j : Nat) (msk : List Bool) (hc : X.calm = true) (nd : X.N.Nodup) (ha : SA X W [a, b] ms) (hi : X.N[i]? = some x := by rfl) (hj : X.N[j]? = some y := by rfl) (hij : i ≠ j := by decide)
    (hx : X.env.scope.names.lookup x = some .local := by rfl) (hy : X.env.scope.names.lookup y = some .local := by rfl)
    (hw : swappedStores [.Tuple [.Name x px, .Name y py] kt pt] (.Tuple [a, b] k2 pt2) X.env = pure (some [x, y]) := by rfl)
    (hs : swapsWithSole [.Tuple [.Name x px, .Name y py] kt pt] (.Tuple [a, b] k2 pt2) pos.line X.env = pure false := by rfl) :
    SS X W (.Assign [.Tuple [.Name x px, .Name y py] kt pt] (.Tuple [a, b] k2 pt2) pos) (mPar2 msk i j ms) :=
  PS.imp (ps_par hc nd hi hj hij hx hy ha hw hs) fun D σ H h => rS_or h par2_or par2O_end par2F_end
end
end Zm
set_option Elab.async false
set_option linter.all false
set_option maxRecDepth 100000
set_option autoImplicit false
/-! Z16: many names from one value; types as values. -/
namespace Zm
open PySem PySem.Spec PyProof.Rows L2
def mUnp (msk : List Bool) (tg : Tg) (m : M) : MS := fun σ s => (m (restr msk σ) s).to σ fun d s' => match tg.bind (fz d) (frzE msk σ) with
  | some σ' => .nx σ' s'
  | none => .bad
section
variable {K : PySem.W.Frag} {mg : Str → Option Value} {W : WX} {H : Hp} {σ : L2.St} {D : Ends} {msk : List Bool} {tg : Tg} {m : M}
theorem unp_end (h : rS K mg W (mUnp msk tg m) D σ H) : rE K mg W m σ H fun x H1 => rG K mg tg x σ H1 D.nx := by
  obtain ⟨σm, s, ρ, A, F, rel, h⟩ := h
  refine rEF_of_to rel h fun d s1 v H1 ρ1 a f Am Fm Ar F2 fr wd rp g r2 q h => ?_
  split at h
  · rename_i σ1 hb
    obtain ⟨f', rp', qf⟩ := rp.fz
    have ev := rel.env.there
    have key : ∀ x, 1 ≤ f' x → 1 ≤ Am x ∨ 1 ≤ Fm x ∨ H x = none := fun x h => by
      have := qf x h
      obtain ⟨g1, g2, g3⟩ := g x
      by_cases z : 1 ≤ a x
      · exact .inr (.inr (g2 z).2)
      · exact g3 (by omega)
    refine ⟨frzE msk σm, s1, ρ1, Ar, F2, fz d, f', ⟨r2.frame fr fun _ hx => no0 hx, wd, fun x => ?_⟩, rp', fun x z => ?_, σ1, hb, fun σ' A' F' rel' le ch => h σ' H1 ρ1 A' F' fr.up rel' fun x => ?_⟩
    · have s0 := rel.sep x
      have q0 := q x
      refine ⟨by omega, fun z => ?_⟩
      have := s0.2 (by omega)
      by_cases w : 1 ≤ F2 x
      · have := q0.2.2 w; omega
      · omega
    · have s0 := rel.sep x
      have q0 := q x
      by_cases y : 1 ≤ Ar x
      · have := s0.2 (by omega)
        rcases key x z with w | w | w
        · omega
        · omega
        · obtain ⟨⟨o, ho⟩, _⟩ := ev x (by omega)
          rw [w] at ho; cases ho
      · omega
    · have q0 := q x
      have l := le x
      refine ⟨fun y => .inl (by omega), fun y => ?_⟩
      rcases l.2 y with w | w
      · rcases q0.2.2 w with u | u
        · exact .inr (.inl u)
        · exact .inl (by omega)
      · rcases key x w with u | u | u
        · exact .inl (by omega)
        · exact .inr (.inl (by omega))
        · exact .inr (.inr u)
  · exact h.elim
end
section
variable {X : Cx} {W : WX} {e tge : Expr} {m : M} {tg : Tg} {pos : Pos}
theorem ss_unp (msk : List Bool) (he : SE X W e m) (hg : SG X tge tg) (hs : swapsWithSole [tge] e pos.line X.env = pure false := by rfl) (hw : swappedStores [tge] e X.env = pure none := by rfl)
    (h1 : (assignEach [tge] X.env).map (·.2) = [assign tge X.env] := by rfl) : SS X W (.Assign [tge] e pos) (mUnp msk tg m) :=
  PS.imp (ps_asg he hg hs hw h1) fun D σ H h => unp_end h
theorem s_ty {x : Str} {T : String} {pos : Pos} (hm : X.mg x = none) (hb : bootBuiltins x = some (.type T)) (hg : Gl X x := by rfl) (hn : x ≠ "__name__" := by decide) (hd : (x == ("__debug__" : Str)) = false := by decide) : SE X W (.Name x pos) (mC (.ty T)) :=
  PE.imp (pe_bltn (v := .ty T) hg hm hb rfl hn hd) fun σ H Q h => rE_c (fun _ _ => .ty (fun _ => rfl) (fun _ => rfl)) h
end
end Zm
namespace Zm
open PySem PySem.Spec PyProof.Rows L2
section
variable {X : Cx} {W : WX} {tge iter elt : Expr} {ifs : List Expr} {src : Src} {tg : Tg} {t : T} {m : M} {pos py spos : Pos} {scope : Scope} {own : List (Str × Nat)} {y : Str}
theorem ss_setLc (i : Nat) (msk : List Bool) (hc : X.calm = true) (nd : X.N.Nodup) (hi : SI X W false tge iter src) (ok : BlkOk X.N X.env.scope scope own)
    (hg : ∀ (s : Shared) (H : Hp) (C : Addr) (cl : List (Str × Addr)) (fp : List Addr), SG (X.blk s H scope (compEnvC scope cl C X.env) fp) tge tg)
    (ht : ∀ (s : Shared) (H : Hp) (C : Addr) (cl : List (Str × Addr)) (fp : List Addr), STs (X.blk s H scope (compEnvC scope cl C X.env) fp) W0 ifs t)
    (he : ∀ (s : Shared) (H : Hp) (C : Addr) (cl : List (Str × Addr)) (fp : List Addr), SE (X.blk s H scope (compEnvC scope cl C X.env) fp) W0 elt m)
    (hy : X.N[i]? = some y := by rfl) (hyl : X.env.scope.names.lookup y = some .local := by rfl)
    (hsw : swapsWith (.ListComp elt [⟨tge, iter, ifs, 0⟩] scope pos) (some (.Name y py)) spos.line X.env = pure true := by rfl) (hs : ∀ x, foldedSetIterable iter X.env x = pure x := by intro _; rfl) :
    SS X W (.Assign [.Name y py] (.ListComp elt [⟨tge, iter, ifs, 0⟩] scope pos) spos) (mSetD msk i (mLc src tg (own.map (·.2)) t m)) :=
  PS.imp (ps_setLc (g := rG X.K X.mg tg) (tt := rT X.K X.mg W0 t) (te := rE X.K X.mg W0 m) hc nd hy hyl hsw hi ok hg ht he hs) fun D σ H h => rE_lc (rS_or h setD_or set_end setF_end)
end
end Zm
set_option Elab.async false
set_option linter.all false
set_option maxRecDepth 100000
set_option autoImplicit false
/-! Z17: the law's def, as the end wants it. -/
namespace Zm
open PySem PySem.Spec PyProof.Rows L2
section
variable {P : Program} {w : World} {K : PySem.W.Frag} {mg : Str → Option Value} {base : Heap}
theorem fnG_mk {x qual : Str} {st : Stmt} {f : Addr} {fd : FuncData} {N ps : List Str} {k np ns : Nat} {body : MS} (F : Fun K x qual st f fd) (S : FnScope N ps (defScope st))
    (h : ∀ (cdv : Value) (A : Around) (out : List PySem.Env) (s : Shared) (H : Hp) (E : XK), Room k (A.deeper (envOfC qual (defScope st) s.heap.objs.size f cdv)) → A.guards = some [] →
      SSs (cxG P w K mg base N qual (defScope st) f cdv A out s H E) (fun cls dd _ H => E cls dd H) (defBody st) body)
    (hN : N.length = ns := by rfl) (hps : ps.length = np := by rfl) (hnp : np ≤ ns := by decide) : FnG P w K mg base (k + 1) f fd ps (spF K mg (mkFn np ns body)) := by
  obtain ⟨oc, od, kV, doc, pm, an, cdv, ct, osl, rfl, lk, hcd⟩ := F.ex
  exact fnG_of lk hcd S (fun vs H Q E q => by rw [spF_len mkFn_ar q, hps]) fun A out s H vs Q E hr hg q => ⟨_, h cdv A out s H E hr hg, body_of hN hnp q⟩
end
end Zm
set_option linter.all false
set_option autoImplicit false
/-! P0: stepping a machine. -/
namespace Zm
open PySem
@[simp] theorem fz_ints : ∀ ns : List Int, fzs (ns.map D.int) = ns.map D.int
  | [] => rfl
  | n :: ns => by simp [fz_ints ns]
@[simp] theorem noF_ints : ∀ ns : List Int, noFs (ns.map D.int) = true
  | [] => rfl
  | n :: ns => by simp [noF_ints ns]
@[simp] theorem plain_ints : ∀ ns : List Int, plains (ns.map D.int) = true
  | [] => rfl
  | n :: ns => by simp [plain_ints ns]
theorem szl : (1000000 : Nat) ≤ sizeLine := by decide
theorem sm_of {i : Int} (h : i.natAbs < 2 ^ 1900) : sm i = true := decide_eq_true h
/-- a variable that holds an owned list of numbers -/
theorem ret_v {i : Nat} {σ : Env} {s : Sto} {d : D} (h : σ[i]? = some (some d)) : mRetV i σ s = .rt d s := by unfold mRetV; rw [h]
end Zm
namespace Zm
open PySem
mutual
/-- only numbers, in lists and tuples -/
def itg : PyData → Bool
  | .int _ => true
  | .list xs => itgs xs
  | .tuple xs => itgs xs
  | _ => false
def itgs : List PyData → Bool
  | [] => true
  | x :: xs => itg x && itgs xs
end
mutual
theorem itg_lay : ∀ x : PyData, itg x = true → x.canLay0 = true
  | .int _, _ => by simp [PyData.canLay0]
  | .list xs, h => by simp only [itg] at h; simp only [PyData.canLay0]; exact itgs_lay xs h
  | .tuple xs, h => by simp only [itg] at h; simp only [PyData.canLay0]; exact itgs_lay xs h
  | .none, h => by simp [itg] at h
  | .bool _, h => by simp [itg] at h
  | .str _, h => by simp [itg] at h
  | .dict _, h => by simp [itg] at h
theorem itgs_lay : ∀ xs : List PyData, itgs xs = true → PyData.canLayAll0 xs = true
  | [], _ => by simp [PyData.canLayAll0]
  | x :: xs, h => by
    simp only [itgs, Bool.and_eq_true] at h
    simp only [PyData.canLayAll0, Bool.and_eq_true]
    exact ⟨itg_lay x h.1, itgs_lay xs h.2⟩
end
mutual
theorem eqv_itg : ∀ x y : PyData, itg x = true → itg y = true → PyData.eqv x y = true → x = y
  | .int i, .int j, _, _, e => by simp [PyData.eqv] at e; rw [e]
  | .list xs, .list ys, h, h', e => by
    simp only [itg] at h h'; simp only [PyData.eqv] at e
    rw [eqvs_itg xs ys h h' e]
  | .tuple xs, .tuple ys, h, h', e => by
    simp only [itg] at h h'; simp only [PyData.eqv] at e
    rw [eqvs_itg xs ys h h' e]
  | .int _, .list _, _, _, e => by simp [PyData.eqv] at e
  | .int _, .tuple _, _, _, e => by simp [PyData.eqv] at e
  | .list _, .int _, _, _, e => by simp [PyData.eqv] at e
  | .list _, .tuple _, _, _, e => by simp [PyData.eqv] at e
  | .tuple _, .int _, _, _, e => by simp [PyData.eqv] at e
  | .tuple _, .list _, _, _, e => by simp [PyData.eqv] at e
  | .none, _, h, _, _ => by simp [itg] at h
  | .bool _, _, h, _, _ => by simp [itg] at h
  | .str _, _, h, _, _ => by simp [itg] at h
  | .dict _, _, h, _, _ => by simp [itg] at h
  | _, .none, _, h, _ => by simp [itg] at h
  | _, .bool _, _, h, _ => by simp [itg] at h
  | _, .str _, _, h, _ => by simp [itg] at h
  | _, .dict _, _, h, _ => by simp [itg] at h
theorem eqvs_itg : ∀ xs ys : List PyData, itgs xs = true → itgs ys = true → PyData.eqvAll xs ys = true → xs = ys
  | [], [], _, _, _ => rfl
  | x :: xs, y :: ys, h, h', e => by
    simp only [itgs, Bool.and_eq_true] at h h'
    simp only [PyData.eqvAll, Bool.and_eq_true] at e
    rw [eqv_itg x y h.1 h'.1 e.1, eqvs_itg xs ys h.2 h'.2 e.2]
  | [], _ :: _, _, _, e => by simp [PyData.eqvAll] at e
  | _ :: _, [], _, _, e => by simp [PyData.eqvAll] at e
end
/-- data that may be compared -/
structure Cmp (d : D) (x : PyData) : Prop where
  p : pd d = some x
  g : itg x = true
  h : x.depth ≤ 64
theorem Cmp.sh {d : D} {x : PyData} (c : Cmp d x) : shapedD d = some x := by
  unfold shapedD
  rw [c.p]
  have : SeqAt.shaped x = true := Bool.and_eq_true_iff.mpr ⟨itg_lay x c.g, decide_eq_true c.h⟩
  simp only [this, if_true]
theorem eq_t {s : Sto} {d e : D} {x : PyData} (c : Cmp d x) (c' : Cmp e x) : gEq s [d, e] = some (.bl true) := by
  simp only [gEq, c.sh, c'.sh, SeqAt.eqv_refl x (itg_lay x c.g)]
theorem ne_f {s : Sto} {d e : D} {x : PyData} (c : Cmp d x) (c' : Cmp e x) : gNe s [d, e] = some (.bl false) := by
  simp only [gNe, c.sh, c'.sh, SeqAt.eqv_refl x (itg_lay x c.g), Bool.not_true]
theorem eqv_f {x y : PyData} (h : itg x = true) (h' : itg y = true) (ne : x ≠ y) : PyData.eqv x y = false := by
  cases e : PyData.eqv x y with
  | false => rfl
  | true => exact absurd (eqv_itg x y h h' e) ne
theorem eq_f {s : Sto} {d e : D} {x y : PyData} (c : Cmp d x) (c' : Cmp e y) (ne : x ≠ y) : gEq s [d, e] = some (.bl false) := by
  simp only [gEq, c.sh, c'.sh, eqv_f c.g c'.g ne]
theorem ne_t {s : Sto} {d e : D} {x y : PyData} (c : Cmp d x) (c' : Cmp e y) (ne : x ≠ y) : gNe s [d, e] = some (.bl true) := by
  simp only [gNe, c.sh, c'.sh, eqv_f c.g c'.g ne, Bool.not_false]
theorem Cmp.int (i : Int) : Cmp (.int i) (.int i) := ⟨rfl, rfl, by simp [PyData.depth]⟩
theorem pds_map {α : Type} {f : α → D} {g : α → PyData} (h : ∀ x, pd (f x) = some (g x)) : ∀ xs : List α, pds (xs.map f) = some (xs.map g)
  | [] => rfl
  | x :: xs => by rw [List.map_cons, pds, h x, pds_map h xs]; rfl
theorem itgs_map {α : Type} {g : α → PyData} (h : ∀ x, itg (g x) = true) : ∀ xs : List α, itgs (xs.map g) = true
  | [] => rfl
  | x :: xs => by rw [List.map_cons, itgs, h x, itgs_map h xs]; rfl
theorem depth_map {α : Type} {g : α → PyData} {n : Nat} (h : ∀ x, (g x).depth ≤ n) : ∀ xs : List α, PyData.depthAll (xs.map g) ≤ n
  | [] => by simp [PyData.depthAll]
  | x :: xs => by rw [List.map_cons, PyData.depthAll]; have := h x; have := depth_map h xs; omega
/-- a row of numbers, a list or a tuple; rows of such -/
def pInts (ns : List Int) : List PyData := ns.map .int
theorem Cmp.ints (o : Bool) (ns : List Int) : Cmp (.lst o (ns.map D.int)) (.list (ns.map .int)) :=
  ⟨by rw [pd, pds_map (g := PyData.int) fun _ => rfl]; rfl, by rw [itg]; exact itgs_map (fun _ => rfl) ns, by rw [PyData.depth]; have := depth_map (g := PyData.int) (n := 1) (fun _ => by simp [PyData.depth]) ns; omega⟩
theorem Cmp.tints (ns : List Int) : Cmp (.tup (ns.map D.int)) (.tuple (ns.map .int)) :=
  ⟨by rw [pd, pds_map (g := PyData.int) fun _ => rfl]; rfl, by rw [itg]; exact itgs_map (fun _ => rfl) ns, by rw [PyData.depth]; have := depth_map (g := PyData.int) (n := 1) (fun _ => by simp [PyData.depth]) ns; omega⟩
theorem dep_l {ns : List Int} : (PyData.list (ns.map .int)).depth ≤ 2 := by rw [PyData.depth]; have := depth_map (g := PyData.int) (n := 1) (fun _ => by simp [PyData.depth]) ns; omega
theorem dep_t {ns : List Int} : (PyData.tuple (ns.map .int)).depth ≤ 2 := by rw [PyData.depth]; have := depth_map (g := PyData.int) (n := 1) (fun _ => by simp [PyData.depth]) ns; omega
theorem Cmp.lol (o o' : Bool) (h : List (List Int)) : Cmp (.lst o (h.map fun r => .lst o' (r.map D.int))) (.list (h.map fun r => .list (r.map .int))) :=
  ⟨by rw [pd, pds_map (g := fun r => PyData.list (r.map .int)) fun r => (Cmp.ints o' r).p]; rfl, by rw [itg]; exact itgs_map (fun r => (Cmp.ints true r).g) h, by rw [PyData.depth]; have := depth_map (g := fun r : List Int => PyData.list (r.map .int)) (n := 2) (fun r => dep_l) h; omega⟩
theorem Cmp.tot (h : List (List Int)) : Cmp (.tup (h.map fun r => .tup (r.map D.int))) (.tuple (h.map fun r => .tuple (r.map .int))) :=
  ⟨by rw [pd, pds_map (g := fun r => PyData.tuple (r.map .int)) fun r => (Cmp.tints r).p]; rfl, by rw [itg]; exact itgs_map (fun r => (Cmp.tints r).g) h, by rw [PyData.depth]; have := depth_map (g := fun r : List Int => PyData.tuple (r.map .int)) (n := 2) (fun r => dep_t) h; omega⟩
end Zm
namespace Zm
open PySem
theorem atI_nat {α : Type} {xs : List α} {k : Nat} : L2.atI xs (k : Int) = xs[k]? := by
  unfold L2.atI L2.ixN
  rw [if_pos (by omega)]
  by_cases h : k < xs.length
  · rw [if_pos (by omega)]; simp
  · rw [if_neg (by omega), List.getElem?_eq_none (by omega)]; rfl
theorem atI_zero {α : Type} {xs : List α} : L2.atI xs 0 = xs[0]? := atI_nat (k := 0)
theorem atI_last {α : Type} {xs : List α} : L2.atI xs (-1) = xs.getLast? := by
  unfold L2.atI L2.ixN
  rw [if_neg (by decide)]
  cases h : xs.length with
  | zero =>
    have := List.eq_nil_of_length_eq_zero h
    subst this; rfl
  | succ n =>
    rw [if_pos (by omega)]
    show xs[((-1 : Int) + ((n + 1 : Nat) : Int)).toNat]? = _
    rw [List.getLast?_eq_getElem?, h, show ((-1 : Int) + ((n + 1 : Nat) : Int)).toNat = n by omega]
    rfl
theorem atI_lt {α : Type} {xs : List α} {i : Int} (h0 : 0 ≤ i) (h : i < xs.length) : L2.atI xs i = some (xs[i.toNat]'(by omega)) := by
  unfold L2.atI L2.ixN
  rw [if_pos h0, if_pos h]; simp
end Zm
namespace Zm
open PySem PySem.Spec PyProof.Rows L2
theorem cut_from {α : Type} (xs : List α) (k : Nat) : cutD xs (some (k : Int)) none = xs.drop k := by
  unfold cutD
  rw [HT.sIx_nat, HT.sIx_none, List.take_of_length_le (by simp)]
  by_cases h : k ≤ xs.length
  · rw [Nat.min_eq_left h]
  · rw [Nat.min_eq_right (by omega), List.drop_eq_nil_of_le (by omega), List.drop_eq_nil_of_le (by omega)]
theorem cut_to {α : Type} (xs : List α) (k : Nat) : cutD xs none (some (k : Int)) = xs.take k := by
  unfold cutD
  rw [HT.sIx_nat, HT.sIx_none, List.drop_zero, Nat.sub_zero]
  by_cases h : k ≤ xs.length
  · rw [Nat.min_eq_left h]
  · rw [Nat.min_eq_right (by omega), List.take_of_length_le (Nat.le_refl _), List.take_of_length_le (by omega)]
theorem zip2_map {α β : Type} (f : α → D) (g : β → D) : ∀ (xs : List α) (ys : List β), zip2 (xs.map f) (ys.map g) = (xs.zip ys).map fun p => .tup [f p.1, g p.2]
  | [], _ => by simp [zip2]
  | _ :: _, [] => by simp [zip2]
  | x :: xs, y :: ys => by
    have := zip2_map f g xs ys
    unfold zip2 at this ⊢
    simp [this]
theorem iZip2_ok {ms : List M} {σ : Env} {s s' : Sto} {a b : D} {xs ys : List D} (h : mArgs ms σ s = .ok [a, b] s') (ha : itemsOf a = some xs) (hb : itemsOf b = some ys) : iZip2 ms σ s = .ok (zip2 xs ys) s' := by
  simp only [iZip2, h, R.bind_ok, ha, hb]
theorem iZip3_ok {ms : List M} {σ : Env} {s s' : Sto} {a b c : D} {xs ys zs : List D} (h : mArgs ms σ s = .ok [a, b, c] s') (ha : itemsOf a = some xs) (hb : itemsOf b = some ys) (hc : itemsOf c = some zs) : iZip3 ms σ s = .ok (zip3 xs ys zs) s' := by
  simp only [iZip3, h, R.bind_ok, ha, hb, hc]
theorem for_ok {msk : List Bool} {src : Src} {tg : Tg} {b : MS} {σ : Env} {s s' : Sto} {ds : List D} (h : src (restr msk σ) s = .ok ds s') : mFor msk src tg b σ s = forR tg b ds (frzE msk σ) s' := by
  simp only [mFor, h, R.to_ok]
theorem forR_nx {tg : Tg} {b : MS} {d : D} {ds : List D} {σ σ1 σ2 : Env} {s s2 : Sto} (h : tg.bind d σ = some σ1) (hb : b σ1 s = .nx σ2 s2) : forR tg b (d :: ds) σ s = forR tg b ds σ2 s2 := by
  conv => lhs; unfold forR
  simp only [h, hb]
end Zm
namespace Zm
open PySem
theorem setD_F {msk : List Bool} {i : Nat} {m : M} {σ : Env} {s s1 s' : Sto} {d d' : D} (h : m σ s = .ok d s1) (hn : noF d = false) (h2 : m (restr msk σ) s = .ok d' s') (hl : i < σ.length) : mSetD msk i m σ s = .nx ((frzE msk σ).set i (some (fz d'))) s' := by
  unfold mSetD mSetF
  simp [h, hn, h2, hl]
theorem do_ok {m : M} {σ : Env} {s s' : Sto} {d : D} (h : m σ s = .ok d s') : mDo m σ s = .nx σ s' := by simp only [mDo, h, R.to_ok]
theorem ret_ok {m : M} {σ : Env} {s s' : Sto} {d : D} (h : m σ s = .ok d s') : mRet m σ s = .rt d s' := by simp only [mRet, h, R.to_ok]
theorem if_f {t : T} {a b : MS} {σ : Env} {s s' : Sto} {r : RS} (h : t σ s = .ok false s') (hb : b σ s' = r) : mIf t a b σ s = r := by simp only [mIf, h, R.to_ok, hb]; rfl
theorem if_t {t : T} {a b : MS} {σ : Env} {s s' : Sto} {r : RS} (h : t σ s = .ok true s') (hb : a σ s' = r) : mIf t a b σ s = r := by simp only [mIf, h, R.to_ok, hb]; rfl
theorem call_ok {f : Fn} {ms : List M} {σ : Env} {s s' s2 : Sto} {ds : List D} {d : D} (h : mArgs ms σ s = .ok ds s') (hf : f ds s' = .ok d s2) : mCall f ms σ s = .ok d s2 := by simp only [mCall, h, R.bind_ok, hf]
theorem op_ok {g : Sto → List D → Option D} {ms : List M} {σ : Env} {s s' : Sto} {ds : List D} {d : D} (h : mArgs ms σ s = .ok ds s') (hf : g s' ds = some d) : mOp g ms σ s = .ok d s' := by simp only [mOp, h, R.bind_ok, hf, R.of_some]
end Zm
set_option Elab.async false
set_option linter.all false
set_option maxRecDepth 100000
set_option autoImplicit false
namespace Zm
open PySem PySem.Spec PyProof.Rows L2
def f__law_well : Fn := mkFn 2 3 (mSeq (mSetD [] 2 (mC (.int 0))) (mSeq (mIf (tV (mOp gLt [(mVar 1), (mOp gLen [(mVar 0)])])) (mSetD [true, true] 2 (mOp gIx [(mVar 0), (mVar 1)])) mNil) (mRet (mBox [(mOp gMax2 [(mC (.int 0)), (mOp gSub [(mOp gAbs [(mVar 2)]), (mOp gPow [(mC (.int 10)), (mC (.int 18))])])]), (mOp gAdd [(mOp gMod [(mVar 2), (mOp gAdd [(mOp gPow [(mC (.int 10)), (mC (.int 37))]), (mC (.int 43))])]), (mOp gMul [(mC (.int 13171)), (mVar 1)])]), (mC (.int 0))]))))
def f__law_dip : Fn := mkFn 2 4 (mSeq (mIf (tV (mOp gGt [(mOp gIx [(mVar 0), (mC (.int 0))]), (mC (.int 0))])) (mSeq (mSetD [true, true] 2 (mOp gMod [(mOp gIx [(mVar 0), (mC (.int 0))]), (mVar 1)])) (mSeq (mSt [true, true] 0 (mC (.int 0)) (mOp gDiv [(mOp gIx [(mVar 0), (mC (.int 0))]), (mVar 1)])) (mRetV 2))) mNil) (mSeq (mSt [true] 0 (mC (.int 2)) (mOp gAdd [(mOp gIx [(mVar 0), (mC (.int 2))]), (mC (.int 1))])) (mSeq (mSetD [true] 3 (mOp gMod [(mOp gPow [(mOp gAdd [(mOp gIx [(mVar 0), (mC (.int 1))]), (mOp gMul [(mC (.int 49979687)), (mOp gIx [(mVar 0), (mC (.int 2))])])]), (mC (.int 3))]), (mOp gAdd [(mOp gPow [(mC (.int 10)), (mC (.int 38))]), (mC (.int 133))])])) (mSeq (mSetD [true, false, false, true] 3 (mOp gMod [(mOp gPow [(mOp gAdd [(mVar 3), (mOp gMul [(mC (.int 160481183)), (mOp gIx [(mVar 0), (mC (.int 2))])])]), (mC (.int 3))]), (mOp gAdd [(mOp gPow [(mC (.int 10)), (mC (.int 35))]), (mC (.int 69))])])) (mRet (mOp gMod [(mOp gDiv [(mVar 3), (mC (.int 131071))]), (mVar 1)]))))))
/-- for spot in range(many) -/
def f__law_hall_b1 : MS := (mUpd uApp [true, false, false, true, true] 8 [(mOp gIx [(mOp gLst [(mCall f__law_dip [(mVar 0), (mC (.int 4))]), (mCall f__law_dip [(mVar 0), (mC (.int 12))]), (mCall f__law_dip [(mVar 0), (mVar 3)])]), (mCall f__law_dip [(mVar 0), (mOp gAdd [(mC (.int 1)), (mVar 4)])])])])
/-- for k in range(1 + _law_dip(well, counters)) -/
def f__law_hall_b2 : MS := (mSeq (mSetD [] 8 (mOp gLst [])) (mSeq (mForP (iR1 [(mVar 5)]) (.nm 9) f__law_hall_b1) (mUpd uApp [false, false, false, false, false, false, false, false, true] 6 [(mOp gTuple [(mVar 8)])])))
def f__law_hall : Fn := mkFn 4 10 (mSeq (mSetD [true] 4 (mCall f__law_dip [(mVar 0), (mC (.int 3))])) (mSeq (mSetD [true, false, true] 5 (mOp gAdd [(mC (.int 1)), (mCall f__law_dip [(mVar 0), (mVar 2)])])) (mSeq (mSetD [] 6 (mOp gLst [])) (mSeq (mForP (iR1 [(mOp gAdd [(mC (.int 1)), (mCall f__law_dip [(mVar 0), (mVar 1)])])]) (.nm 7) f__law_hall_b2) (mRet (mOp gTuple [(mVar 6)]))))))
/-- for k in range(many) -/
def f__law_times_b1 : MS := (mSeq (mSetD [true, false, true, true, false, true] 5 (mOp gAdd [(mVar 5), (mOp gIx [(mOp gLst [(mC (.int 0)), (mCall f__law_dip [(mVar 0), (mC (.int 9))]), (mCall f__law_dip [(mVar 0), (mVar 2)])]), (mCall f__law_dip [(mVar 0), (mOp gAdd [(mC (.int 1)), (mVar 3)])])])])) (mUpd uApp [false, false, false, false, false, true] 4 [(mVar 5)]))
def f__law_times : Fn := mkFn 3 7 (mSeq (mSetD [true] 3 (mCall f__law_dip [(mVar 0), (mC (.int 3))])) (mSeq (mSetD [] 4 (mOp gLst [])) (mSeq (mSetD [] 5 (mC (.int 0))) (mSeq (mForP (iR1 [(mVar 1)]) (.nm 6) f__law_times_b1) (mRetV 4)))))
def f_is_whole : Fn := mkFn 1 1 (mRet (mAnd (mOp gIsi [(mVar 0), (mC (.ty "int"))]) (mNot (mOp gIsi [(mVar 0), (mC (.ty "bool"))]))))
def f_is_amount : Fn := mkFn 1 1 (mRet (mAnd (mCall f_is_whole [(mVar 0)]) (mOp gGe [(mVar 0), (mC (.int 0))])))
/-- [is_amount(one) for one in thing] -/
def f_is_row_c1 : M := mLc (iSeq (mVar 0)) (.nm 2) [2] tTrue (mCall f_is_amount [(mVar 2)])
def f_is_row : Fn := mkFn 2 3 (mRet (mAnd (mOp gIsi [(mVar 0), (mC (.ty "tuple"))]) (mAnd (mOp gEq [(mOp gLen [(mVar 0)]), (mVar 1)]) (mOp gAll [f_is_row_c1]))))
/-- [is_row(row, len(thing[0])) for row in thing] -/
def f_is_hall_c1 : M := mLc (iSeq (mVar 0)) (.nm 1) [1] tTrue (mCall f_is_row [(mVar 1), (mOp gLen [(mOp gIx [(mVar 0), (mC (.int 0))])])])
def f_is_hall : Fn := mkFn 1 2 (mSeq (mIf (tOr (tNot (tV (mOp gIsi [(mVar 0), (mC (.ty "tuple"))]))) (tOr (tNot (tV (mChain gLe gLe (mC (.int 1)) (mOp gLen [(mVar 0)]) (mC (.int 8))))) (tNot (tV (mOp gIsi [(mOp gIx [(mVar 0), (mC (.int 0))]), (mC (.ty "tuple"))]))))) (mRet (mC (.bl false))) mNil) (mRet (mAnd (mChain gLe gLe (mC (.int 1)) (mOp gLen [(mOp gIx [(mVar 0), (mC (.int 0))])]) (mC (.int 8))) (mOp gAll [f_is_hall_c1]))))
def f_need_hall : Fn := mkFn 1 1 (mIf (tNot (tV (mCall f_is_hall [(mVar 0)]))) mBadS mNil)
/-- [one <= other for one, other in zip(thing, thing[1:])] -/
def f_are_times_c1 : M := mLc (iZip2 [(mVar 0), (mOp gSl10 [(mVar 0), (mC (.int 1))])]) (.t2 (.nm 1) (.nm 2)) [1, 2] tTrue (mOp gLe [(mVar 1), (mVar 2)])
/-- [is_amount(one) for one in thing] -/
def f_are_times_c2 : M := mLc (iSeq (mVar 0)) (.nm 1) [1] tTrue (mCall f_is_amount [(mVar 1)])
def f_are_times : Fn := mkFn 1 3 (mSeq (mIf (tOr (tNot (tV (mOp gIsi [(mVar 0), (mC (.ty "list"))]))) (tNot (tV (mOp gAll [f_are_times_c2])))) (mRet (mC (.bl false))) mNil) (mRet (mOp gAll [f_are_times_c1])))
def f_need_day : Fn := mkFn 2 2 (mIf (tOr (tNot (tV (mCall f_are_times [(mVar 1)]))) (tV (mOp gNe [(mOp gLen [(mVar 1)]), (mOp gLen [(mOp gIx [(mVar 0), (mC (.int 0))])])]))) mBadS mNil)
/-- for (minutes, time) in zip(row, times) -/
def f_left_at_b1 : MS := (mSeq (mSetD [false, false, false, true, true, true] 3 (mOp gAdd [(mOp gMax2 [(mVar 3), (mVar 5)]), (mVar 4)])) (mUpd uApp [false, false, false, true] 2 [(mVar 3)]))
def f_left_at : Fn := mkFn 2 6 (mSeq (mSetD [] 2 (mOp gLst [])) (mSeq (mSetD [] 3 (mC (.int 0))) (mSeq (mFor [true, true] (iZip2 [(mVar 0), (mVar 1)]) (.t2 (.nm 4) (.nm 5)) f_left_at_b1) (mRetV 2))))
/-- for row in hall -/
def f_leavings_of_b1 : MS := (mSeq (mSetD [false, false, false, true, true] 3 (mCall f_left_at [(mVar 4), (mVar 3)])) (mUpd uApp [false, false, false, true] 2 [(mVar 3)]))
def f_leavings_of : Fn := mkFn 2 5 (mSeq (mSetD [] 2 (mOp gLst [])) (mSeq (mSetD [false, true] 3 (mVar 1)) (mSeq (mFor [true] (iSeq (mVar 0)) (.nm 4) f_leavings_of_b1) (mRetV 2))))
def f_leavings : Fn := mkFn 2 2 (mSeq (mDo (mCall f_need_hall [(mVar 0)])) (mSeq (mDo (mCall f_need_day [(mVar 0), (mVar 1)])) (mRet (mCall f_leavings_of [(mVar 0), (mVar 1)]))))
/-- [end - minutes - time for minutes, time, end in zip(row, times, left)] -/
def f_waits_c1 : M := mLc (iZip3 [(mVar 4), (mVar 5), (mVar 6)]) (.t3 (.nm 7) (.nm 8) (.nm 9)) [7, 8, 9] tTrue (mOp gSub [(mOp gSub [(mVar 9), (mVar 7)]), (mVar 8)])
/-- for (row, times, left) in zip(hall, [day] + gone, gone) -/
def f_waits_b2 : MS := (mUpd uApp [false, false, false, false, true, true, true, true, true, true] 3 [f_waits_c1])
def f_waits : Fn := mkFn 2 10 (mSeq (mDo (mCall f_need_hall [(mVar 0)])) (mSeq (mDo (mCall f_need_day [(mVar 0), (mVar 1)])) (mSeq (mSetD [true, true] 2 (mCall f_leavings_of [(mVar 0), (mVar 1)])) (mSeq (mSetD [] 3 (mOp gLst [])) (mSeq (mFor [true, true, true] (iZip3 [(mVar 0), (mOp gAdd [(mOp gLst [(mVar 1)]), (mVar 2)]), (mVar 2)]) (.t3 (.nm 4) (.nm 5) (.nm 6)) f_waits_b2) (mRetV 3))))))
def f_last : Fn := mkFn 2 2 (mSeq (mDo (mCall f_need_hall [(mVar 0)])) (mSeq (mDo (mCall f_need_day [(mVar 0), (mVar 1)])) (mRet (mOp gIx [(mCall f_leavings_of [(mVar 0), (mVar 1)]), (mOp gNeg [(mC (.int 1))])]))))
/-- [later - time for time, later in zip(one, other)] -/
def f__law_over_c1 : M := mLc (iZip2 [(mVar 3), (mVar 4)]) (.t2 (.nm 5) (.nm 6)) [5, 6] tTrue (mOp gSub [(mVar 6), (mVar 5)])
/-- for (one, other) in zip(here, there) -/
def f__law_over_b2 : MS := (mUpd uExt [false, false, false, true, true, true, true] 2 [f__law_over_c1])
def f__law_over : Fn := mkFn 2 7 (mSeq (mSetD [] 2 (mOp gLst [])) (mSeq (mFor [true, true] (iZip2 [(mVar 0), (mVar 1)]) (.t2 (.nm 3) (.nm 4)) f__law_over_b2) (mRetV 2)))
/-- [row[:who] for row in here] -/
def f__law_late_right_c1 : M := mLc (iSeq (mVar 7)) (.nm 10) [10] tTrue (mOp gSl01 [(mVar 10), (mVar 3)])
/-- [row[:who] for row in there] -/
def f__law_late_right_c2 : M := mLc (iSeq (mVar 8)) (.nm 10) [10] tTrue (mOp gSl01 [(mVar 10), (mVar 3)])
/-- [max(time, times[who] + late) for time in times[who:]] -/
def f__law_late_right_c3 : M := mLc (iSeq (mOp gSl10 [(mVar 2), (mVar 3)])) (.nm 6) [6] tTrue (mOp gMax2 [(mVar 6), (mOp gAdd [(mOp gIx [(mVar 2), (mVar 3)]), (mVar 4)])])
def f__law_late_right : Fn := mkFn 3 11 (mSeq (mSetD [true, false, true] 3 (mCall f__law_dip [(mVar 0), (mOp gLen [(mVar 2)])])) (mSeq (mSetD [true] 4 (mCall f__law_dip [(mVar 0), (mOp gIx [(mOp gLst [(mC (.int 5)), (mOp gPow [(mC (.int 10)), (mC (.int 11))])]), (mCall f__law_dip [(mVar 0), (mC (.int 2))])])])) (mSeq (mSetD [false, false, true, true, true, false, true] 5 (mOp gAdd [(mOp gSl01 [(mVar 2), (mVar 3)]), f__law_late_right_c3])) (mSeq (mPar2 [false, true, true, false, false, true] 7 8 [(mCall f_leavings [(mVar 1), (mVar 2)]), (mCall f_leavings [(mVar 1), (mVar 5)])]) (mSeq (mSetD [false, false, false, false, false, false, false, true, true] 9 (mCall f__law_over [(mVar 7), (mVar 8)])) (mSeq (mIf (tOr (tV (mOp gLt [(mOp gMinA [(mVar 9)]), (mC (.int 0))])) (tV (mOp gGt [(mOp gMaxA [(mVar 9)]), (mVar 4)]))) (mRet (mC (.bl false))) mNil) (mRet (mOp gEq [f__law_late_right_c1, f__law_late_right_c2]))))))))
/-- [one[:who] for one in here] -/
def f__law_more_right_c1 : M := mLc (iSeq (mVar 8)) (.nm 11) [11] tTrue (mOp gSl01 [(mVar 11), (mVar 4)])
/-- [one[:who] for one in there] -/
def f__law_more_right_c2 : M := mLc (iSeq (mVar 9)) (.nm 11) [11] tTrue (mOp gSl01 [(mVar 11), (mVar 4)])
def f__law_more_right : Fn := mkFn 3 12 (mSeq (mUnp [true, true, true] (.t2 (.nm 3) (.nm 4)) (mOp gTup [(mCall f__law_dip [(mVar 0), (mOp gLen [(mVar 1)])]), (mCall f__law_dip [(mVar 0), (mOp gLen [(mVar 2)])])])) (mSeq (mSetD [true] 5 (mOp gAdd [(mC (.int 1)), (mCall f__law_dip [(mVar 0), (mOp gIx [(mOp gLst [(mC (.int 5)), (mOp gPow [(mC (.int 10)), (mC (.int 11))])]), (mCall f__law_dip [(mVar 0), (mC (.int 2))])])])])) (mSeq (mSetD [false, true, false, true] 6 (mOp gIx [(mVar 1), (mVar 3)])) (mSeq (mSetD [false, false, false, false, true, true, true] 7 (mOp gAdd [(mOp gAdd [(mOp gSl01 [(mVar 6), (mVar 4)]), (mOp gTup [(mOp gAdd [(mOp gIx [(mVar 6), (mVar 4)]), (mVar 5)])])]), (mOp gSl10 [(mVar 6), (mOp gAdd [(mVar 4), (mC (.int 1))])])])) (mSeq (mPar2 [false, true, true, true, false, false, false, true] 8 9 [(mCall f_leavings [(mVar 1), (mVar 2)]), (mCall f_leavings [(mOp gAdd [(mOp gAdd [(mOp gSl01 [(mVar 1), (mVar 3)]), (mOp gTup [(mVar 7)])]), (mOp gSl10 [(mVar 1), (mOp gAdd [(mVar 3), (mC (.int 1))])])]), (mVar 2)])]) (mSeq (mSetD [false, false, false, false, false, false, false, false, true, true] 10 (mCall f__law_over [(mVar 8), (mVar 9)])) (mSeq (mIf (tOr (tV (mOp gLt [(mOp gMinA [(mVar 10)]), (mC (.int 0))])) (tOr (tV (mOp gGt [(mOp gMaxA [(mVar 10)]), (mVar 5)])) (tV (mOp gNe [(mOp gSub [(mOp gIx [(mOp gIx [(mVar 9), (mVar 3)]), (mVar 4)]), (mOp gIx [(mOp gIx [(mVar 8), (mVar 3)]), (mVar 4)])]), (mVar 5)])))) (mRet (mC (.bl false))) mNil) (mRet (mAnd (mOp gEq [(mOp gSl01 [(mVar 8), (mVar 3)]), (mOp gSl01 [(mVar 9), (mVar 3)])]) (mOp gEq [f__law_more_right_c1, f__law_more_right_c2]))))))))))
/-- [p for p in range(1, many) if left[p] - left[p - 1] < row[p]] -/
def f_law_c1 : M := mLc (iR2 [(mC (.int 1)), (mVar 5)]) (.nm 20) [20] (tV (mOp gLt [(mOp gSub [(mOp gIx [(mVar 19), (mVar 20)]), (mOp gIx [(mVar 19), (mOp gSub [(mVar 20), (mC (.int 1))])])]), (mOp gIx [(mVar 13), (mVar 20)])])) (mVar 20)
/-- for (row, left) in zip(desks, here) -/
def f_law_b2 : MS := (mIf (tV (mOp gNe [f_law_c1, (mOp gLst [])])) (mRet (mC (.bl false))) mNil)
/-- [max(pair) for pair in zip(one, other)] -/
def f_law_c3 : M := mLc (iZip2 [(mVar 17), (mVar 18)]) (.nm 15) [15] tTrue (mOp gMaxA [(mVar 15)])
/-- [[max(pair) for pair in zip(one, other)] for one, other in zip(here, there)] -/
def f_law_c4 : M := mLc (iZip2 [(mVar 8), (mVar 9)]) (.t2 (.nm 17) (.nm 18)) [17, 18] tTrue f_law_c3
/-- [max(pair) for pair in zip(times, others)] -/
def f_law_c5 : M := mLc (iZip2 [(mVar 6), (mVar 7)]) (.nm 15) [15] tTrue (mOp gMaxA [(mVar 15)])
/-- [time + shift for time in row] -/
def f_law_c6 : M := mLc (iSeq (mVar 13)) (.nm 12) [12] tTrue (mOp gAdd [(mVar 12), (mVar 10)])
/-- [[time + shift for time in row] for row in here] -/
def f_law_c7 : M := mLc (iSeq (mVar 8)) (.nm 13) [13] tTrue f_law_c6
/-- [time + shift for time in times] -/
def f_law_c8 : M := mLc (iSeq (mVar 6)) (.nm 12) [12] tTrue (mOp gAdd [(mVar 12), (mVar 10)])
/-- for turn in range(3) -/
def f_law_b9 : MS := (mSeq (mSetD [false, false, true] 4 (mCall f__law_hall [(mVar 2), (mC (.int 8)), (mC (.int 8)), (mOp gPow [(mC (.int 10)), (mC (.int 11))])])) (mSeq (mSetD [false, false, false, false, true] 5 (mOp gLen [(mOp gIx [(mVar 4), (mC (.int 0))])])) (mSeq (mPar2 [false, false, true, false, false, true] 6 7 [(mCall f__law_times [(mVar 2), (mVar 5), (mOp gPow [(mC (.int 10)), (mC (.int 10))])]), (mCall f__law_times [(mVar 2), (mVar 5), (mOp gPow [(mC (.int 10)), (mC (.int 10))])])]) (mSeq (mPar2 [false, false, false, false, true, false, true, true] 8 9 [(mCall f_leavings [(mVar 4), (mVar 6)]), (mCall f_leavings [(mVar 4), (mVar 7)])]) (mSeq (mSetD [false, false, true] 10 (mCall f__law_dip [(mVar 2), (mOp gPow [(mC (.int 10)), (mC (.int 11))])])) (mSeq (mSetD [false, false, false, false, false, false, true, false, false, false, true, false, true] 11 f_law_c8) (mSeq (mIf (tV (mOp gNe [(mCall f_leavings [(mVar 4), (mVar 11)]), f_law_c7])) (mRet (mC (.bl false))) mNil) (mSeq (mIf (tV (mOp gNe [(mCall f_waits [(mVar 4), (mVar 11)]), (mCall f_waits [(mVar 4), (mVar 6)])])) (mRet (mC (.bl false))) mNil) (mSeq (mSetD [false, false, false, false, false, false, true, true, false, false, false, false, false, false, false, true] 14 f_law_c5) (mSeq (mSetD [false, false, false, false, false, false, false, false, true, true, false, false, false, false, false, true, false, true, true] 16 f_law_c4) (mSeq (mIf (tOr (tV (mOp gNe [(mCall f_leavings [(mVar 4), (mVar 14)]), (mVar 16)])) (tV (mOp gNe [(mCall f_last [(mVar 4), (mVar 14)]), (mOp gIx [(mVar 16), (mOp gNeg [(mC (.int 1))])])]))) (mRet (mC (.bl false))) mNil) (mSeq (mFor [false, false, false, false, true, false, false, false, true] (iZip2 [(mVar 4), (mVar 8)]) (.t2 (.nm 13) (.nm 19)) f_law_b2) (mIf (tOr (tNot (tV (mCall f__law_late_right [(mVar 2), (mVar 4), (mVar 6)]))) (tNot (tV (mCall f__law_more_right [(mVar 2), (mVar 4), (mVar 6)])))) (mRet (mC (.bl false))) mNil)))))))))))))
/-- for k in range(max(1, min(4, len(script)))) -/
def f_law_b10 : MS := (mSeq (mSetD [true, true] 2 (mCall f__law_well [(mVar 0), (mVar 1)])) (mForP (iR1 [(mC (.int 3))]) (.nm 3) f_law_b9))
def f_law : Fn := mkFn 1 21 (mSeq (mForP (iR1 [(mOp gMax2 [(mC (.int 1)), (mOp gMin2 [(mC (.int 4)), (mOp gLen [(mVar 0)])])])]) (.nm 1) f_law_b10) (mRet (mC (.bl true))))
end Zm
set_option linter.all false
set_option autoImplicit false
set_option maxRecDepth 100000
namespace Zm
open PySem
--@ _law_dip
def Well (s : Sto) (n C : Nat) : Prop := ∃ a b c : Int, s[n]? = some [.int a, .int b, .int c] ∧ 0 ≤ a ∧ 0 ≤ b ∧ b < 2 ^ 130 ∧ 0 ≤ c ∧ c ≤ C
theorem Well.mono {s : Sto} {n C C' : Nat} (h : Well s n C) (hc : C ≤ C') : Well s n C' := by
  obtain ⟨a, b, c, e, h1, h2, h3, h4, h5⟩ := h
  exact ⟨a, b, c, e, h1, h2, h3, h4, by omega⟩
theorem ix_box {s : Sto} {n : Nat} {xs : List D} {i : Int} {d : D} (h : s[n]? = some xs) (e : L2.atI xs i = some d) : gIx s [.box n, .int i] = some d := by
  show (s[n]?).bind _ = _
  rw [h]; exact e
theorem at3_0 {x y z : D} : L2.atI [x, y, z] 0 = some x := rfl
theorem at3_1 {x y z : D} : L2.atI [x, y, z] 1 = some y := rfl
theorem at3_2 {x y z : D} : L2.atI [x, y, z] 2 = some z := rfl
theorem sm_lt {i : Int} (h1 : -(2 ^ 250) < i) (h2 : i < 2 ^ 250) : sm i = true := by
  refine sm_of (Nat.lt_of_lt_of_le (m := 2 ^ 250) (by omega) (Nat.pow_le_pow_right (by decide) (by decide)))
theorem pow_s (s : Sto) (x k : Int) (h0 : 0 ≤ k) (hk : k ≤ 1000) (h1 : -(2 ^ 250) < x) (h2 : x < 2 ^ 250) : gPow s [.int x, .int k] = some (.int (x ^ k.toNat)) := by
  simp only [gPow]
  rw [if_pos ⟨h0, hk, sm_lt h1 h2⟩]
theorem p10 (s : Sto) (k : Int) (h0 : 0 ≤ k) (hk : k ≤ 1000) : gPow s [.int 10, .int k] = some (.int (10 ^ k.toNat)) := pow_s s 10 k h0 hk (by decide) (by decide)
theorem mul_s (s : Sto) (x y : Int) (h1 : -(2 ^ 250) < x) (h2 : x < 2 ^ 250) (h3 : -(2 ^ 250) < y) (h4 : y < 2 ^ 250) : gMul s [.int x, .int y] = some (.int (x * y)) := by
  simp only [gMul]
  rw [if_pos ⟨sm_lt h1 h2, sm_lt h3 h4⟩]
theorem div_s (s : Sto) (x y : Int) (h : 0 < y) (h' : y < 2 ^ 250) : gDiv s [.int x, .int y] = some (.int (x / y)) := by
  simp only [gDiv]
  rw [if_pos ⟨h, sm_lt (by omega) h'⟩]
theorem dip_ok {s : Sto} {n C : Nat} {w : Int} (hw : Well s n C) (hC : C < 2 ^ 100) (h1 : 0 < w) (h2 : w < 2 ^ 100) :
    ∃ r s', f__law_dip [.box n, .int w] s = .ok (.int r) s' ∧ 0 ≤ r ∧ r < w ∧ Well s' n (C + 1) := by
  obtain ⟨a, b, c, e, ha, hb, hb2, hc, hc2⟩ := hw
  have hn : n < s.length := (List.getElem?_eq_some_iff.mp e).1
  have i0 := ix_box e (at3_0)
  have i1 := ix_box e (at3_1)
  have i2 := ix_box e (at3_2)
  by_cases h0 : 0 < a
  · refine ⟨a % w, s.set n [.int (a / w), .int b, .int c], ?_, Int.emod_nonneg _ (by omega), Int.emod_lt_of_pos _ h1, a / w, b, c, by simp [hn], Int.ediv_nonneg ha (by omega), hb, hb2, hc, by omega⟩
    have d1 := div_s s a w h1 (by omega)
    simp [f__law_dip, mkFn, i0, h0, h1, mSetD, mSt, e, d1, uSet, L2.ixN, mRetV]
  · have a0 : a = 0 := by omega
    subst a0
    obtain ⟨s1, hs⟩ : ∃ s1, s.set n [.int 0, .int b, .int (c + 1)] = s1 := ⟨_, rfl⟩
    have e1 : s1[n]? = some [.int 0, .int b, .int (c + 1)] := by rw [← hs]; simp [hn]
    have j1 := ix_box e1 (at3_1)
    have j2 := ix_box e1 (at3_2)
    have q1 := mul_s s1 49979687 (c + 1) (by decide) (by decide) (by omega) (by omega)
    have q2 := pow_s s1 (b + 49979687 * (c + 1)) 3 (by decide) (by decide) (by omega) (by omega)
    have q3 := mul_s s1 160481183 (c + 1) (by decide) (by decide) (by omega) (by omega)
    obtain ⟨m1, hm1⟩ : ∃ m, (b + 49979687 * (c + 1)) ^ 3 % 100000000000000000000000000000000000133 = m := ⟨_, rfl⟩
    have m1a : 0 ≤ m1 := hm1 ▸ Int.emod_nonneg _ (by decide)
    have m1b : m1 < 100000000000000000000000000000000000133 := hm1 ▸ Int.emod_lt_of_pos _ (by decide)
    have q4 := pow_s s1 (m1 + 160481183 * (c + 1)) 3 (by decide) (by decide) (by omega) (by omega)
    obtain ⟨m2, hm2⟩ : ∃ m, (m1 + 160481183 * (c + 1)) ^ 3 % 100000000000000000000000000000000069 = m := ⟨_, rfl⟩
    have q5 := div_s s1 m2 131071 (by decide) (by decide)
    refine ⟨m2 / 131071 % w, s1, ?_, Int.emod_nonneg _ (by omega), Int.emod_lt_of_pos _ h1, 0, b, c + 1, e1, by omega, hb, hb2, by omega, by omega⟩
    simp [f__law_dip, mkFn, i0, i1, i2, h1, mSetD, mSt, e, uSet, L2.ixN, mRetV, hs, j1, j2, p10, q1, q2, q3, q4, q5, hm1, hm2]
--@ loops
theorem for_ix {tg : Tg} {body : MS} (P : Nat → Env → Sto → Prop) : ∀ (ds : List D) (k : Nat) {σ : Env} {s : Sto}, P k σ s →
    (∀ i (hi : i < ds.length) σ s, P (k + i) σ s → ∃ σ1 σ2 s2, tg.bind ds[i] σ = some σ1 ∧ body σ1 s = .nx σ2 s2 ∧ P (k + i + 1) σ2 s2) → ∃ σ' s', forR tg body ds σ s = .nx σ' s' ∧ P (k + ds.length) σ' s'
  | [], k, σ, s, h0, _ => ⟨σ, s, rfl, h0⟩
  | d :: ds, k, σ, s, h0, st => by
    obtain ⟨σ1, σ2, s2, e1, e2, h2⟩ := st 0 (by simp) σ s h0
    obtain ⟨σ', s', e3, h3⟩ := for_ix P ds (k + 1) h2 fun i hi σ s h => by
      have := st (i + 1) (by simpa using hi) σ s (by rw [show k + (i + 1) = k + 1 + i by omega]; exact h)
      rw [show k + (i + 1) + 1 = k + 1 + i + 1 by omega] at this
      simpa using this
    refine ⟨σ', s', ?_, by rw [List.length_cons, show k + (ds.length + 1) = k + 1 + ds.length by omega]; exact h3⟩
    simp only [List.getElem_cons_zero] at e1
    unfold forR
    simp only [e1, e2]
    exact e3
theorem for_all {tg : Tg} {body : MS} (P : Nat → Env → Sto → Prop) {ds : List D} {σ : Env} {s : Sto} (h0 : P 0 σ s)
    (st : ∀ i (hi : i < ds.length) σ s, P i σ s → ∃ σ1 σ2 s2, tg.bind ds[i] σ = some σ1 ∧ body σ1 s = .nx σ2 s2 ∧ P (i + 1) σ2 s2) : ∃ σ' s', forR tg body ds σ s = .nx σ' s' ∧ P ds.length σ' s' := by
  have := for_ix (tg := tg) (body := body) P ds 0 h0 fun i hi σ s h => by simpa using st i hi σ s (by simpa using h)
  simpa using this
theorem lc_map {tg : Tg} {m : M} {σ : Env} {s : Sto} (g : D → D) : ∀ (ds acc : List D), (∀ d ∈ ds, ∃ σ1, tg.bind d σ = some σ1 ∧ m σ1 s = .ok (g d) s) → acc.length + ds.length ≤ sizeLine →
    lcR tg tTrue m σ ds acc s = .ok (.lst true (acc ++ ds.map g)) s
  | [], acc, _, _ => by simp [lcR]
  | d :: ds, acc, h, hl => by
    obtain ⟨σ1, e1, e2⟩ := h d (by simp)
    rw [List.length_cons] at hl
    unfold lcR
    simp only [e1, tTrue, e2, if_true]
    rw [if_pos (by omega), lc_map g ds (acc ++ [g d]) (fun d hd => h d (List.mem_cons_of_mem _ hd)) (by simp; omega)]
    simp
theorem mLc_map {src : Src} {tg : Tg} {vs : List Nat} {m : M} {σ : Env} {s s' : Sto} {ds : List D} (g : D → D) (h : src σ s = .ok ds s') (hw : tg.within vs = true) (hm : ∀ d ∈ ds, ∃ σ1, tg.bind d (wipeE (fzE σ) vs) = some σ1 ∧ m σ1 s' = .ok (g d) s') (hl : ds.length ≤ 1000000) :
    mLc src tg vs tTrue m σ s = .ok (.lst true (ds.map g)) s' := by
  have := lc_map (tg := tg) (m := m) g ds [] hm (by simpa using Nat.le_trans hl szl)
  simp only [mLc, h, R.bind_ok, hw, if_true, this, List.nil_append]
theorem rng_length {lo hi st : Int} {n : Nat} : (rng lo hi st n).length = n := by simp [rng]
theorem rng_get {lo hi st : Int} {n i : Nat} (h : i < (rng lo hi st n).length) : (rng lo hi st n)[i] = .int (lo + (i : Nat) * st) := by simp [rng]
theorem rng0_get {hi : Int} {n i : Nat} (h : i < (rng 0 hi 1 n).length) : (rng 0 hi 1 n)[i] = .int (i : Nat) := by simp [rng]
theorem iR1_ok {ms : List M} {σ : Env} {s s' : Sto} {j : Int} (h : mArgs ms σ s = .ok [.int j] s') (h1 : -(2 ^ 62) ≤ j) (h2 : j < 2 ^ 62) : iR1 ms σ s = .ok (rng 0 j 1 j.toNat) s' := by
  have hb : big j = true := decide_eq_true ⟨h1, h2⟩
  simp only [iR1, h, R.bind_ok]
  rw [if_pos hb]
theorem forP_ok {src : Src} {tg : Tg} {b : MS} {σ : Env} {s s' : Sto} {ds : List D} (h : src σ s = .ok ds s') : mForP src tg b σ s = forR tg b ds σ s' := by simp only [mForP, h, R.to_ok]
theorem seq_ok {a b : MS} {σ σ1 : Env} {s s1 : Sto} {r : RS} (h : a σ s = .nx σ1 s1) (h2 : b σ1 s1 = r) : mSeq a b σ s = r := by simp only [mSeq, h, RS.then_nx, h2]
theorem mkFn_rt {np ns : Nat} {body : MS} {ds : List D} {s s' : Sto} {d : D} (hl : ds.length = np) (h : body (ds.map some ++ List.replicate (ns - np) none) s = .rt d s') : mkFn np ns body ds s = .ok d s' := by
  simp only [mkFn, if_pos hl, h]
theorem mkFn_nx {np ns : Nat} {body : MS} {ds : List D} {s s' : Sto} {σ : Env} (hl : ds.length = np) (h : body (ds.map some ++ List.replicate (ns - np) none) s = .nx σ s') : mkFn np ns body ds s = .ok .non s' := by
  simp only [mkFn, if_pos hl, h]
theorem noF_row (r : List Int) : noF (.tup (r.map D.int)) = true := by simp
--@ _law_well
theorem sl3 : 3 ≤ sizeLine := by decide
theorem well_ok {ns : List Int} {k : Int} (h0 : 0 ≤ k) (hk : k < 1000) (s : Sto) : ∃ n s', f__law_well [.ro ns, .int k] s = .ok (.box n) s' ∧ Well s' n 0 := by
  have q1 : ∀ s, gMul s [.int 13171, .int k] = some (.int (13171 * k)) := fun s => mul_s s 13171 k (by decide) (by decide) (by omega) (by omega)
  have key : ∀ cell : Int, ∃ a : Int, (if cell < 0 then -cell else cell) - 1000000000000000000 = a := fun c => ⟨_, rfl⟩
  by_cases h : k < ns.length
  · have e : L2.atI ns k = some (ns[k.toNat]'(by omega)) := by
      unfold L2.atI L2.ixN
      rw [if_pos h0, if_pos h]; simp
    generalize ns[k.toNat]'(by omega) = cell at e
    obtain ⟨a, ha⟩ := key cell
    refine ⟨s.length, s ++ [[.int (if 0 < a then a else 0), .int (cell % 10000000000000000000000000000000000043 + 13171 * k), .int 0]], ?_, ?_⟩
    · simp [f__law_well, mkFn, h, mSetD, gIx, e, mBox, p10, q1, ha, sl3]
    · refine ⟨_, _, _, by simp; exact ⟨rfl, rfl, rfl⟩, ?_, ?_, ?_, by decide, by decide⟩
      · split <;> omega
      · have := Int.emod_nonneg cell (b := 10000000000000000000000000000000000043) (by decide); omega
      · have := Int.emod_lt_of_pos cell (b := 10000000000000000000000000000000000043) (by decide); omega
  · refine ⟨s.length, s ++ [[.int 0, .int (13171 * k), .int 0]], ?_, _, _, _, by simp; exact ⟨rfl, rfl, rfl⟩, ?_, ?_, ?_, by decide, by decide⟩
    · simp [f__law_well, mkFn, h, mSetD, gIx, mBox, p10, q1, sl3]
    · decide
    · omega
    · omega
--@ _law_hall
def rowD (r : List Int) : D := .tup (r.map D.int)
def hallD (h : List (List Int)) : D := .tup (h.map rowD)
def Nn (r : List Int) : Prop := ∀ x ∈ r, 0 ≤ x
@[simp] theorem fz_rows : ∀ h : List (List Int), fzs (h.map rowD) = h.map rowD
  | [] => rfl
  | r :: h => by simp [fz_rows h, rowD]
@[simp] theorem noF_rows : ∀ h : List (List Int), noFs (h.map rowD) = true
  | [] => rfl
  | r :: h => by simp [noF_rows h, rowD]
@[simp] theorem plain_rows : ∀ h : List (List Int), plains (h.map rowD) = true
  | [] => rfl
  | r :: h => by simp [plain_rows h, rowD]
@[simp] theorem fz_hall (h : List (List Int)) : fz (hallD h) = hallD h := by simp [hallD, fz_rows]
@[simp] theorem noF_hall (h : List (List Int)) : noF (hallD h) = true := by simp [hallD, noF_rows]
structure HallOK (h : List (List Int)) (m : Nat) : Prop where
  l1 : 1 ≤ h.length
  l8 : h.length ≤ 8
  m1 : 1 ≤ m
  m8 : m ≤ 8
  row : ∀ r ∈ h, r.length = m ∧ Nn r
theorem Nn.snoc {r : List Int} {x : Int} (h : Nn r) (hx : 0 ≤ x) : Nn (r ++ [x]) := fun y hy => by
  rcases List.mem_append.mp hy with z | z
  · exact h y z
  · simp at z; omega
theorem at3_lt {a b c : Int} {r : Int} (h0 : 0 ≤ r) (h3 : r < 3) (ha : 0 ≤ a) (hb : 0 ≤ b) (hc : 0 ≤ c) : ∃ x, L2.atI [D.int a, D.int b, D.int c] r = some (D.int x) ∧ 0 ≤ x := by
  rcases (by omega : r = 0 ∨ r = 1 ∨ r = 2) with rfl | rfl | rfl
  · exact ⟨a, rfl, ha⟩
  · exact ⟨b, rfl, hb⟩
  · exact ⟨c, rfl, hc⟩
theorem app_ok {msk : List Bool} {i : Nat} {m : M} {σ : Env} {s s' : Sto} {xs : List D} {d : D} (e : σ[i]? = some (some (.lst true xs))) (h : m σ s = .ok d s') (hn : noF d = true) (hl : xs.length < sizeLine) :
    mUpd uApp msk i [m] σ s = .nx (σ.set i (some (.lst true (xs ++ [d])))) s' := by
  unfold mUpd
  simp [e, h, hn, uApp, hl]
theorem setD_ok {msk : List Bool} {i : Nat} {m : M} {σ : Env} {s s' : Sto} {d : D} (h : m σ s = .ok d s') (hn : noF d = true) (hl : i < σ.length) : mSetD msk i m σ s = .nx (σ.set i (some d)) s' := by
  unfold mSetD
  simp [h, hn, hl]
theorem szb {n : Nat} (h : n ≤ 1000000) : n ≤ sizeLine := Nat.le_trans h szl
theorem gLst_ok {s : Sto} {ds : List D} (h : ds.length ≤ 1000000) : gLst s ds = some (.lst true ds) := by unfold Zm.gLst; rw [if_pos (szb h)]
theorem gTup_ok {s : Sto} {ds : List D} (h : ds.length ≤ 1000000) : Zm.gTup s ds = some (.tup ds) := by unfold Zm.gTup; rw [if_pos (szb h)]
theorem gIx_l {s : Sto} {o : Bool} {xs : List D} {i : Int} : gIx s [.lst o xs, .int i] = L2.atI xs i := rfl
theorem gIx_t {s : Sto} {xs : List D} {i : Int} : gIx s [.tup xs, .int i] = L2.atI xs i := rfl
theorem hall_ok {s : Sto} {n C : Nat} {a b w : Int} (hw : Well s n C) (hC : C + 1000 < 2 ^ 100) (ha : 1 ≤ a) (ha8 : a ≤ 8) (hb : 1 ≤ b) (hb8 : b ≤ 8) (h1 : 0 < w) (h2 : w < 2 ^ 100) :
    ∃ h m s', f__law_hall [.box n, .int a, .int b, .int w] s = .ok (hallD h) s' ∧ HallOK h m ∧ Well s' n (C + 1000) := by
  obtain ⟨lean, s1, e1, l0, l3, w1⟩ := dip_ok hw (by omega) (show (0 : Int) < 3 by decide) (by decide)
  obtain ⟨mm, s2, e2, m0, mb, w2⟩ := dip_ok w1 (by omega) (show (0 : Int) < b by omega) (by omega)
  obtain ⟨cc, s3, e3, c0, ca, w3⟩ := dip_ok w2 (by omega) (show (0 : Int) < a by omega) (by omega)
  obtain ⟨m, hm⟩ : ∃ m : Nat, (m : Int) = 1 + mm := ⟨(1 + mm).toNat, by omega⟩
  -- the inner loop
  have inner : ∀ (x6 x7 x9 : Option D) (C' : Nat) (s : Sto), C' + 4 * m < 2 ^ 100 → Well s n C' →
      ∃ row s' y9, forR (.nm 9) f__law_hall_b1 (rng 0 (m : Int) 1 m) [some (.box n), some (.int a), some (.int b), some (.int w), some (.int lean), some (.int m), x6, x7, some (.lst true []), x9] s =
        .nx [some (.box n), some (.int a), some (.int b), some (.int w), some (.int lean), some (.int m), x6, x7, some (.lst true (row.map D.int)), y9] s' ∧ row.length = m ∧ Nn row ∧ Well s' n (C' + 4 * m) := by
    intro x6 x7 x9 C' s hC' hw'
    obtain ⟨σ', s', ef, row, y9, rfl, hl, hn, hw2⟩ := for_all (tg := .nm 9) (body := f__law_hall_b1) (ds := rng 0 (m : Int) 1 m)
      (fun i σ s => ∃ (row : List Int) (y9 : Option D), σ = [some (.box n), some (.int a), some (.int b), some (.int w), some (.int lean), some (.int m), x6, x7, some (.lst true (row.map D.int)), y9] ∧ row.length = i ∧ Nn row ∧ Well s n (C' + 4 * i))
      ⟨[], x9, rfl, rfl, fun _ h => by simp at h, hw'⟩ (by
        rintro i hi σ s ⟨row, y9, rfl, hl, hn, hw⟩
        rw [rng_length] at hi
        rw [rng0_get]
        obtain ⟨r1, t1, g1, p1, q1, u1⟩ := dip_ok hw (by omega) (show (0 : Int) < 4 by decide) (by decide)
        obtain ⟨r2, t2, g2, p2, q2, u2⟩ := dip_ok u1 (by omega) (show (0 : Int) < 12 by decide) (by decide)
        obtain ⟨r3, t3, g3, p3, q3, u3⟩ := dip_ok u2 (by omega) h1 h2
        obtain ⟨r4, t4, g4, p4, q4, u4⟩ := dip_ok u3 (by omega) (show (0 : Int) < 1 + lean by omega) (by omega)
        obtain ⟨x, ex, hx⟩ := at3_lt p4 (show r4 < 3 by omega) p1 p2 p3
        refine ⟨_, _, t4, rfl, app_ok (d := .int x) (xs := row.map D.int) rfl ?_ rfl ?_, row ++ [x], some (.int (i : Nat)), by simp, by simp [hl], hn.snoc hx, ?_⟩
        · simp [g1, g2, g3, g4, gLst_ok, gIx_l, ex]
        · have := szl; rw [List.length_map]; omega
        · rw [show C' + 4 * (i + 1) = C' + 4 * i + 1 + 1 + 1 + 1 by omega]; exact u4)
    rw [rng_length] at hl hw2
    exact ⟨row, s', y9, ef, hl, hn, hw2⟩
  obtain ⟨σ', s', ef, found, y7, y8, y9, rfl, hl, hr, hw2⟩ := for_all (tg := .nm 7) (body := f__law_hall_b2) (ds := rng 0 (1 + cc) 1 (1 + cc).toNat) (s := s3)
    (σ := [some (.box n), some (.int a), some (.int b), some (.int w), some (.int lean), some (.int m), some (.lst true []), none, none, none])
    (fun i σ s => ∃ (found : List (List Int)) (y7 y8 y9 : Option D), σ = [some (.box n), some (.int a), some (.int b), some (.int w), some (.int lean), some (.int m), some (.lst true (found.map rowD)), y7, y8, y9] ∧ found.length = i ∧ (∀ r ∈ found, r.length = m ∧ Nn r) ∧ Well s n (C + 3 + 4 * m * i))
    ⟨[], none, none, none, rfl, rfl, fun _ h => by simp at h, w3.mono (by omega)⟩ (by
      rintro i hi σ s ⟨found, y7, y8, y9, rfl, hl, hr, hw⟩
      rw [rng_length] at hi
      rw [rng0_get]
      have hi8 : i < 8 := by omega
      have hm8 : m ≤ 8 := by omega
      have hmi : 4 * m * i ≤ 4 * 8 * 8 := Nat.mul_le_mul (by omega) (by omega)
      obtain ⟨row, t, z9, ef, rl, rn, rw'⟩ := inner (some (.lst true (found.map rowD))) (some (.int (i : Nat))) y9 _ s (by omega) hw
      refine ⟨_, _, t, rfl, ?_, found ++ [row], some (.int (i : Nat)), some (.lst true (row.map D.int)), z9, rfl, by simp [hl], fun r hr' => ?_, ?_⟩
      · have e8 : found.length < sizeLine := by have := szl; omega
        have r1 : ∀ x8 : Option D, iR1 [mVar 5] [some (.box n), some (.int a), some (.int b), some (.int w), some (.int lean), some (.int m), some (.lst true (found.map rowD)), some (.int (i : Nat)), x8, y9] s = .ok (rng 0 (m : Int) 1 m) s := fun x8 => by
          have := iR1_ok (ms := [mVar 5]) (σ := [some (.box n), some (.int a), some (.int b), some (.int w), some (.int lean), some (.int m), some (.lst true (found.map rowD)), some (.int (i : Nat)), x8, y9]) (s := s) (s' := s) (j := (m : Int)) (by simp) (by omega) (by omega)
          simpa using this
        unfold f__law_hall_b2
        refine seq_ok (setD_ok (d := .lst true []) (by simp [gLst_ok]) rfl (by simp)) (seq_ok ((forP_ok (r1 _)).trans ef) ?_)
        have := app_ok (msk := [false, false, false, false, false, false, false, false, true]) (i := 6) (m := mOp gTuple [mVar 8]) (σ := [some (.box n), some (.int a), some (.int b), some (.int w), some (.int lean), some (.int m), some (.lst true (found.map rowD)), some (.int (i : Nat)), some (.lst true (row.map D.int)), z9]) (s := t) (s' := t) (d := rowD row) (xs := found.map rowD) rfl (by simp [gTuple, rowD]) (noF_row _) (by rw [List.length_map]; exact e8)
        rw [this]
        simp
      · rcases List.mem_append.mp hr' with z | z
        · exact hr r z
        · simp at z; subst z; exact ⟨rl, rn⟩
      · rw [show C + 3 + 4 * m * (i + 1) = C + 3 + 4 * m * i + 4 * m by rw [Nat.mul_succ]; omega]; exact rw')
  rw [rng_length] at hl hw2
  have hm8 : m ≤ 8 := by omega
  have hmi : 4 * m * (1 + cc).toNat ≤ 4 * 8 * 8 := Nat.mul_le_mul (by omega) (by omega)
  refine ⟨found, m, s', ?_, ⟨by omega, by omega, by omega, hm8, hr⟩, hw2.mono (by omega)⟩
  have r2 := iR1_ok (ms := [mOp gAdd [mC (.int 1), mCall f__law_dip [mVar 0, mVar 1]]]) (σ := [some (.box n), some (.int a), some (.int b), some (.int w), some (.int lean), some (.int m), some (.lst true []), none, none, none]) (s := s2) (s' := s3) (j := 1 + cc) (by simp [e3]) (by omega) (by omega)
  simp [f__law_hall, mkFn, mSetD, e1, e2, ← hm, gLst_ok, mForP, r2, ef, gTuple, hallD]
--@ _law_times
structure DayOK (t : List Int) (m : Nat) : Prop where
  len : t.length = m
  nn : Nn t
  up : t.Pairwise (· ≤ ·)
theorem times_ok {s : Sto} {n C m : Nat} {w : Int} (hw : Well s n C) (hC : C + 100 < 2 ^ 100) (hm : m ≤ 8) (h1 : 0 < w) (h2 : w < 2 ^ 100) :
    ∃ t s', f__law_times [.box n, .int (m : Nat), .int w] s = .ok (.lst true (t.map D.int)) s' ∧ DayOK t m ∧ Well s' n (C + 100) := by
  obtain ⟨lean, s1, e1, l0, l3, w1⟩ := dip_ok hw (by omega) (show (0 : Int) < 3 by decide) (by decide)
  obtain ⟨σ', s', ef, t, tm, y6, rfl, hl, hn, hup, hle, h0, hw2⟩ := for_all (tg := .nm 6) (body := f__law_times_b1) (ds := rng 0 (m : Int) 1 m) (s := s1)
    (σ := [some (.box n), some (.int (m : Nat)), some (.int w), some (.int lean), some (.lst true []), some (.int 0), none])
    (fun i σ s => ∃ (t : List Int) (tm : Int) (y6 : Option D), σ = [some (.box n), some (.int (m : Nat)), some (.int w), some (.int lean), some (.lst true (t.map D.int)), some (.int tm), y6] ∧ t.length = i ∧ Nn t ∧ t.Pairwise (· ≤ ·) ∧ (∀ x ∈ t, x ≤ tm) ∧ 0 ≤ tm ∧ Well s n (C + 1 + 3 * i))
    ⟨[], 0, none, rfl, rfl, fun _ h => by simp at h, .nil, fun _ h => by simp at h, by decide, w1⟩ (by
      rintro i hi σ s ⟨t, tm, y6, rfl, hl, hn, hup, hle, h0, hw⟩
      rw [rng_length] at hi
      rw [rng0_get]
      obtain ⟨r2, t2, g2, p2, q2, u2⟩ := dip_ok hw (by omega) (show (0 : Int) < 9 by decide) (by decide)
      obtain ⟨r3, t3, g3, p3, q3, u3⟩ := dip_ok u2 (by omega) h1 h2
      obtain ⟨r4, t4, g4, p4, q4, u4⟩ := dip_ok u3 (by omega) (show (0 : Int) < 1 + lean by omega) (by omega)
      obtain ⟨x, ex, hx⟩ := at3_lt p4 (show r4 < 3 by omega) (Int.le_refl 0) p2 p3
      refine ⟨_, _, t4, rfl, ?_, t ++ [tm + x], tm + x, some (.int (i : Nat)), rfl, by simp [hl], hn.snoc (by omega), ?_, ?_, by omega, ?_⟩
      · unfold f__law_times_b1
        refine seq_ok (setD_ok (s' := t4) (d := .int (tm + x)) ?_ rfl (by simp)) ?_
        · simp [g2, g3, g4, gLst_ok, gIx_l, ex]
        · have := app_ok (msk := [false, false, false, false, false, true]) (i := 4) (m := mVar 5) (σ := [some (.box n), some (.int (m : Nat)), some (.int w), some (.int lean), some (.lst true (t.map D.int)), some (.int (tm + x)), some (.int (i : Nat))]) (s := t4) (s' := t4) (d := .int (tm + x)) (xs := t.map D.int) rfl (by simp) rfl (by have := szl; rw [List.length_map]; omega)
          refine Eq.trans this ?_
          simp
      · rw [List.pairwise_append]
        exact ⟨hup, by simp, fun a ha b hb => by simp at hb; subst hb; have := hle a ha; omega⟩
      · intro y hy
        rcases List.mem_append.mp hy with z | z
        · have := hle y z; omega
        · simp at z; omega
      · rw [show C + 1 + 3 * (i + 1) = C + 1 + 3 * i + 1 + 1 + 1 by omega]; exact u4)
  rw [rng_length] at hl hw2
  refine ⟨t, s', ?_, ⟨hl, hn, hup⟩, hw2.mono (by omega)⟩
  have r2 := iR1_ok (ms := [mVar 1]) (σ := [some (.box n), some (.int (m : Nat)), some (.int w), some (.int lean), some (.lst true []), some (.int 0), none]) (s := s1) (s' := s1) (j := (m : Int)) (by simp) (by omega) (by omega)
  have key := seq_ok (setD_ok (msk := [true]) (i := 3) (m := mCall f__law_dip [mVar 0, mC (.int 3)]) (σ := [some (.box n), some (.int (m : Nat)), some (.int w), none, none, none, none]) (s := s) (s' := s1) (d := .int lean) (by simp [e1]) rfl (by simp))
    (seq_ok (setD_ok (msk := []) (i := 4) (m := mOp gLst []) (d := .lst true []) (s' := s1) (by simp [gLst_ok]) rfl (by simp))
    (seq_ok (setD_ok (msk := []) (i := 5) (m := mC (.int 0)) (d := .int 0) (s' := s1) (by simp) rfl (by simp))
    (seq_ok ((forP_ok (b := f__law_times_b1) (tg := .nm 6) r2).trans ef) (ret_v (i := 4) rfl))))
  exact mkFn_rt rfl key
--@ is_whole is_amount is_row is_hall need_hall
theorem whole_int (i : Int) (s : Sto) : f_is_whole [.int i] s = .ok (.bl true) s := rfl
theorem amount_int (i : Int) (s : Sto) : f_is_amount [.int i] s = .ok (.bl (decide (0 ≤ i))) s := rfl
theorem toBls_true : ∀ n : Nat, toBls (List.replicate n (.bl true)) = some (List.replicate n true)
  | 0 => rfl
  | n + 1 => by simp [List.replicate_succ, toBls, toBls_true n]
theorem map_const {α β : Type} (b : β) : ∀ l : List α, l.map (fun _ => b) = List.replicate l.length b
  | [] => rfl
  | x :: l => by simp [List.replicate_succ, map_const b l]
theorem gAll_true {s : Sto} {o : Bool} (n : Nat) : gAll s [.lst o (List.replicate n (.bl true))] = some (.bl true) := by
  simp [gAll, toBls_true]
@[simp] theorem fz_row (r : List Int) : fz (rowD r) = rowD r := by simp [rowD]
theorem items_row (r : List Int) : itemsOf (rowD r) = some (r.map D.int) := by simp [itemsOf, rowD]
theorem items_hall (h : List (List Int)) : itemsOf (hallD h) = some (h.map rowD) := by simp [itemsOf, hallD]
theorem items_ints (o : Bool) (t : List Int) : itemsOf (.lst o (t.map D.int)) = some (t.map D.int) := by simp [itemsOf]
theorem iSeq_ok {m : M} {σ : Env} {s s' : Sto} {d : D} {ds : List D} (h : m σ s = .ok d s') (hd : itemsOf d = some ds) : iSeq m σ s = .ok ds s' := by
  simp only [iSeq, h, R.bind_ok]
  cases d <;> simp_all [itemsOf]
theorem row_ok {r : List Int} {m : Nat} (hl : r.length = m) (hn : Nn r) (hz : r.length ≤ 1000000) (s : Sto) : f_is_row [rowD r, .int (m : Nat)] s = .ok (.bl true) s := by
  have key : f_is_row_c1 [some (rowD r), some (.int (m : Nat)), none] s = .ok (.lst true (List.replicate r.length (.bl true))) s := by
    have := mLc_map (src := iSeq (mVar 0)) (tg := .nm 2) (vs := [2]) (m := mCall f_is_amount [mVar 2]) (σ := [some (rowD r), some (.int (m : Nat)), none]) (s := s) (s' := s) (ds := r.map D.int) (fun _ => .bl true) (iSeq_ok (by simp) (items_row r)) rfl (fun d hd => by
      obtain ⟨x, hx, rfl⟩ := List.mem_map.mp hd
      exact ⟨_, rfl, by simp [amount_int, hn x hx]⟩) (by simpa using hz)
    rwa [map_const, List.length_map] at this
  refine mkFn_rt rfl ?_
  have e1 : gLen s [rowD r] = some (.int (m : Nat)) := by simp [rowD, hl]
  have e2 : gIsi s [rowD r, .ty "tuple"] = some (.bl true) := by simp [rowD]
  simp only [mRet, mAnd, mOp, mArgs, mVar, mC, List.map_cons, List.map_nil, List.cons_append, List.nil_append, List.getElem?_cons_zero, List.getElem?_cons_succ, fz, fz_row, R.bind_ok, R.of_some, R.to_ok, e1, e2, eq_t (Cmp.int _) (Cmp.int _), show List.replicate (3 - 2) (none : Option D) = [none] from rfl, key, gAll_true]
theorem gIx_h {s : Sto} {h : List (List Int)} {r : List Int} (e : h.head? = some r) : gIx s [hallD h, .int 0] = some (rowD r) := by
  cases h with
  | nil => cases e
  | cons x h =>
    have : x = r := by simpa using e
    subst this
    exact (show gIx s [hallD (x :: h), .int 0] = L2.atI (rowD x :: h.map rowD) 0 from rfl).trans (atI_zero.trans rfl)
theorem hall_is {h : List (List Int)} {m : Nat} (H : HallOK h m) (s : Sto) : f_is_hall [hallD h] s = .ok (.bl true) s := by
  obtain ⟨r0, e0⟩ : ∃ r, h.head? = some r := by
    cases h with
    | nil => have := H.l1; simp at this
    | cons x h => exact ⟨x, rfl⟩
  have hr0 : r0 ∈ h := List.mem_of_head? e0
  have hm := (H.row r0 hr0).1
  have g0 : gIx s [hallD h, .int 0] = some (rowD r0) := gIx_h e0
  have g1 : gLen s [rowD r0] = some (.int (m : Nat)) := by simp [rowD, hm]
  have g2 : gIsi s [hallD h, .ty "tuple"] = some (.bl true) := by simp [hallD]
  have g3 : gIsi s [rowD r0, .ty "tuple"] = some (.bl true) := by simp [rowD]
  have g4 : gLen s [hallD h] = some (.int (h.length : Nat)) := by simp [hallD]
  have key : f_is_hall_c1 [some (hallD h), none] s = .ok (.lst true (List.replicate h.length (.bl true))) s := by
    have := mLc_map (src := iSeq (mVar 0)) (tg := .nm 1) (vs := [1]) (m := mCall f_is_row [mVar 1, mOp gLen [mOp gIx [mVar 0, mC (.int 0)]]]) (σ := [some (hallD h), none]) (s := s) (s' := s) (ds := h.map rowD) (fun _ => .bl true) (iSeq_ok (by simp) (items_hall h)) rfl (fun d hd => by
      obtain ⟨r, hr, rfl⟩ := List.mem_map.mp hd
      refine ⟨_, rfl, ?_⟩
      have := row_ok (H.row r hr).1 (H.row r hr).2 (by have := (H.row r hr).1; have := H.m8; omega) s
      simp [-gLen, g0, g1, this]) (by have := H.l8; rw [List.length_map]; omega)
    rwa [map_const, List.length_map] at this
  have c1 : gLe s [.int 1, .int (h.length : Nat)] = some (.bl true) := by have := H.l1; simp; omega
  have c2 : gLe s [.int (h.length : Nat), .int 8] = some (.bl true) := by have := H.l8; simp; omega
  have c3 : gLe s [.int 1, .int (m : Nat)] = some (.bl true) := by have := H.m1; simp; omega
  have c4 : gLe s [.int (m : Nat), .int 8] = some (.bl true) := by have := H.m8; simp; omega
  refine mkFn_rt rfl ?_
  simp [-gLen, -gLe, -gIsi, mChain, g0, g1, g2, g3, g4, c1, c2, c3, c4, key, gAll_true]
theorem need_ok {h : List (List Int)} {m : Nat} (H : HallOK h m) (s : Sto) : f_need_hall [hallD h] s = .ok .non s := by
  refine mkFn_nx (σ := [some (hallD h)]) rfl ?_
  simp [hall_is H s]
--@ are_times need_day
theorem all_map {α : Type} {p : α → Bool} {l : List α} (h : ∀ x ∈ l, p x = true) : l.map (fun x => D.bl (p x)) = List.replicate l.length (.bl true) := by
  rw [← map_const (D.bl true) l]
  exact List.map_congr_left fun x hx => by rw [h x hx]
theorem times_is {t : List Int} {m : Nat} (H : DayOK t m) (hm : m ≤ 1000000) (o : Bool) (s : Sto) : f_are_times [.lst o (t.map D.int)] s = .ok (.bl true) s := by
  have hl := H.len
  have k1 : f_are_times_c2 [some (.lst o (t.map D.int)), none, none] s = .ok (.lst true (List.replicate t.length (.bl true))) s := by
    have := mLc_map (src := iSeq (mVar 0)) (tg := .nm 1) (vs := [1]) (m := mCall f_is_amount [mVar 1]) (σ := [some (.lst o (t.map D.int)), none, none]) (s := s) (s' := s) (ds := t.map D.int) (fun _ => .bl true) (iSeq_ok (d := .lst false (t.map D.int)) (by simp) (items_ints _ t)) rfl (fun d hd => by
      obtain ⟨x, hx, rfl⟩ := List.mem_map.mp hd
      exact ⟨_, rfl, by simp [amount_int, H.nn x hx]⟩) (by rw [List.length_map]; omega)
    rwa [map_const, List.length_map] at this
  have k2 : f_are_times_c1 [some (.lst o (t.map D.int)), none, none] s = .ok (.lst true (List.replicate (t.zip (t.drop 1)).length (.bl true))) s := by
    have hs : gSl10 s [.lst false (t.map D.int), .int 1] = some (.lst true ((t.drop 1).map D.int)) := by
      have : gSl10 s [.lst false (t.map D.int), .int 1] = some (.lst true (cutD (t.map D.int) (some ((1 : Nat) : Int)) none)) := rfl
      rw [this, cut_from, List.map_drop]
    have := mLc_map (src := iZip2 [mVar 0, mOp gSl10 [mVar 0, mC (.int 1)]]) (tg := .t2 (.nm 1) (.nm 2)) (vs := [1, 2]) (m := mOp gLe [mVar 1, mVar 2]) (σ := [some (.lst o (t.map D.int)), none, none]) (s := s) (s' := s) (ds := zip2 (t.map D.int) ((t.drop 1).map D.int)) (fun _ => .bl true)
      (iZip2_ok (a := .lst false (t.map D.int)) (b := .lst true ((t.drop 1).map D.int)) (by simp [hs]) (items_ints false t) (items_ints true _)) rfl (fun d hd => by
        rw [zip2_map] at hd
        obtain ⟨⟨x, y⟩, hx, rfl⟩ := List.mem_map.mp hd
        refine ⟨_, rfl, ?_⟩
        obtain ⟨k, hk, e⟩ := List.getElem_of_mem hx
        simp at hk e
        have := List.pairwise_iff_getElem.mp H.up k (k + 1) (by omega) (by omega) (by omega)
        rw [e.1, e.2] at this
        simp [this]) (by rw [zip2_map]; simp; omega)
    rwa [zip2_map, map_const, List.length_map] at this
  have g1 : gIsi s [.lst false (t.map D.int), .ty "list"] = some (.bl true) := by simp
  refine mkFn_rt rfl ?_
  simp [-gIsi, g1, k1, k2, gAll_true]
theorem needd_ok {h : List (List Int)} {t : List Int} {m : Nat} (Hh : HallOK h m) (H : DayOK t m) (o : Bool) (s : Sto) : f_need_day [hallD h, .lst o (t.map D.int)] s = .ok .non s := by
  obtain ⟨r0, e0⟩ : ∃ r, h.head? = some r := by
    cases h with
    | nil => have := Hh.l1; simp at this
    | cons x h => exact ⟨x, rfl⟩
  have hm := (Hh.row r0 (List.mem_of_head? e0)).1
  have g0 : gIx s [hallD h, .int 0] = some (rowD r0) := gIx_h e0
  have g1 : gLen s [rowD r0] = some (.int (m : Nat)) := by simp [rowD, hm]
  have g2 : gLen s [.lst false (t.map D.int)] = some (.int (m : Nat)) := by simp [H.len]
  have k := times_is H (by have := Hh.m8; omega) false s
  refine mkFn_nx (σ := [some (hallD h), some (.lst o (t.map D.int))]) rfl ?_
  simp [-gLen, k, g0, g1, g2, ne_f (Cmp.int _) (Cmp.int _)]
--@ left_at leavings_of leavings
def leftFrom (free : Int) : List Int → List Int → List Int
  | a :: row, t :: ts => (max free t + a) :: leftFrom (max free t + a) row ts
  | _, _ => []
theorem leftFrom_len : ∀ (row ts : List Int) (free : Int), row.length = ts.length → (leftFrom free row ts).length = row.length
  | [], _, _, _ => rfl
  | a :: row, [], _, h => by simp at h
  | a :: row, t :: ts, free, h => by simp [leftFrom, leftFrom_len row ts _ (by simpa using h)]
theorem max_if (a b : Int) : (if b > a then b else a) = max a b := by omega
theorem left_loop (r0 t0 : Option D) : ∀ (row ts acc : List Int) (free : Int) (x4 x5 : Option D) (s : Sto), acc.length + row.length ≤ 1000000 →
    ∃ f y4 y5, forR (.t2 (.nm 4) (.nm 5)) f_left_at_b1 (zip2 (row.map D.int) (ts.map D.int)) [r0, t0, some (.lst true (acc.map D.int)), some (.int free), x4, x5] s =
      .nx [r0, t0, some (.lst true ((acc ++ leftFrom free row ts).map D.int)), some (.int f), y4, y5] s
  | [], ts, acc, free, x4, x5, s, _ => ⟨free, x4, x5, by simp [zip2, forR, leftFrom]⟩
  | a :: row, [], acc, free, x4, x5, s, _ => ⟨free, x4, x5, by simp [zip2, forR, leftFrom]⟩
  | a :: row, t :: ts, acc, free, x4, x5, s, hl => by
    rw [List.length_cons] at hl
    obtain ⟨f, y4, y5, e⟩ := left_loop r0 t0 row ts (acc ++ [max free t + a]) (max free t + a) (some (.int a)) (some (.int t)) s (by simp; omega)
    refine ⟨f, y4, y5, ?_⟩
    show forR _ _ (.tup [.int a, .int t] :: zip2 (row.map D.int) (ts.map D.int)) _ _ = _
    rw [forR_nx (σ1 := [r0, t0, some (.lst true (acc.map D.int)), some (.int free), some (.int a), some (.int t)]) (σ2 := [r0, t0, some (.lst true ((acc ++ [max free t + a]).map D.int)), some (.int (max free t + a)), some (.int a), some (.int t)]) (s2 := s) rfl ?_, e]
    · simp [leftFrom]
    · unfold f_left_at_b1
      refine seq_ok (setD_ok (s' := s) (d := .int (max free t + a)) ?_ rfl (by simp)) ?_
      · simp [max_if]
      · refine (app_ok (s' := s) (d := .int (max free t + a)) (xs := acc.map D.int) rfl (by simp) rfl (by have := szl; rw [List.length_map]; omega)).trans ?_
        simp
def leftAt (row ts : List Int) : List Int := leftFrom 0 row ts
theorem left_ok (row ts : List Int) (o : Bool) (s : Sto) (hl : row.length ≤ 1000000) : f_left_at [rowD row, .lst o (ts.map D.int)] s = .ok (.lst true ((leftAt row ts).map D.int)) s := by
  obtain ⟨f, y4, y5, e⟩ := left_loop (some (rowD row)) (some (.lst false (ts.map D.int))) row ts [] 0 none none s (by simpa using hl)
  refine mkFn_rt rfl (seq_ok (setD_ok (s' := s) (d := .lst true []) (by simp [gLst_ok]) rfl (by simp)) (seq_ok (setD_ok (s' := s) (d := .int 0) (by simp) rfl (by simp)) (seq_ok ((for_ok (s' := s) (ds := zip2 (row.map D.int) (ts.map D.int)) (iZip2_ok (a := rowD row) (b := .lst false (ts.map D.int)) (by simp) (items_row row) (items_ints false ts))).trans (Eq.trans (by simp) e)) (ret_v ?_))))
  rfl
def leavFrom : List (List Int) → List Int → List (List Int)
  | [], _ => []
  | row :: h, t => leftAt row t :: leavFrom h (leftAt row t)
def lolD (o o' : Bool) (h : List (List Int)) : D := .lst o (h.map fun r => .lst o' (r.map D.int))
theorem leav_loop (h0 d0 : Option D) : ∀ (h acc : List (List Int)) (ts : List Int) (o : Bool) (x4 : Option D) (s : Sto), acc.length + h.length ≤ 1000000 → (∀ r ∈ h, r.length ≤ 1000000) →
    ∃ y3 y4, forR (.nm 4) f_leavings_of_b1 (h.map rowD) [h0, d0, some (lolD true false acc), some (.lst o (ts.map D.int)), x4] s = .nx [h0, d0, some (lolD true false (acc ++ leavFrom h ts)), y3, y4] s
  | [], acc, ts, o, x4, s, _, _ => ⟨_, _, by simp [forR, leavFrom]; exact ⟨rfl, rfl⟩⟩
  | row :: h, acc, ts, o, x4, s, hl, hr => by
    rw [List.length_cons] at hl
    obtain ⟨y3, y4, e⟩ := leav_loop h0 d0 h (acc ++ [leftAt row ts]) (leftAt row ts) false (some (rowD row)) s (by simp; omega) fun r hr' => hr r (List.mem_cons_of_mem _ hr')
    refine ⟨y3, y4, ?_⟩
    rw [List.map_cons, forR_nx (σ1 := [h0, d0, some (lolD true false acc), some (.lst o (ts.map D.int)), some (rowD row)]) (σ2 := [h0, d0, some (lolD true false (acc ++ [leftAt row ts])), some (.lst false ((leftAt row ts).map D.int)), some (rowD row)]) (s2 := s) rfl ?_, e]
    · simp [leavFrom]
    · have k := left_ok row ts false s (hr row (by simp))
      have e8 : acc.length < sizeLine := by have := szl; omega
      unfold f_leavings_of_b1
      refine seq_ok (setD_ok (s' := s) (d := .lst true ((leftAt row ts).map D.int)) (by simp [k]) (by simp) (by simp)) ?_
      simp [mUpd, mUpdF, lolD, uApp, e8]
@[simp] theorem fz_lol (o o' : Bool) (h : List (List Int)) : fz (lolD o o' h) = lolD false false h := by
  unfold lolD
  rw [fz, fzs_eq, List.map_map]
  congr 1
  exact List.map_congr_left fun r _ => by simp
theorem noF_lolF {h : List (List Int)} (hh : h ≠ []) (o : Bool) : noF (lolD o false h) = false := by
  cases h with
  | nil => exact absurd rfl hh
  | cons r h => simp [lolD]
theorem noF_lolT (h : List (List Int)) : noF (lolD true true h) = true := by
  unfold lolD
  rw [noF, Bool.true_and, noFs_iff]
  intro x hx
  obtain ⟨r, _, rfl⟩ := List.mem_map.mp hx
  simp
theorem items_lol (o o' : Bool) (h : List (List Int)) : itemsOf (lolD o o' h) = some (h.map fun r => .lst false (r.map D.int)) := by
  unfold lolD
  rw [itemsOf, fzs_eq, List.map_map]
  congr 1
  exact List.map_congr_left fun r _ => by simp
theorem leavFrom_len : ∀ (h : List (List Int)) (t : List Int), (leavFrom h t).length = h.length
  | [], _ => rfl
  | r :: h, t => by simp [leavFrom, leavFrom_len h]
theorem leavOf_ok {h : List (List Int)} (t : List Int) (o : Bool) (s : Sto) (hl : h.length ≤ 1000000) (hr : ∀ r ∈ h, r.length ≤ 1000000) : f_leavings_of [hallD h, .lst o (t.map D.int)] s = .ok (lolD true false (leavFrom h t)) s := by
  obtain ⟨y3, y4, e⟩ := leav_loop (some (hallD h)) (some (.lst false (t.map D.int))) h [] t false none s (by simpa using hl) hr
  refine mkFn_rt rfl (seq_ok (setD_ok (s' := s) (d := .lst true []) (by simp [gLst_ok]) rfl (by simp)) (seq_ok (setD_F (s1 := s) (s' := s) (d := .lst false (t.map D.int)) (d' := .lst false (t.map D.int)) (by simp) (by simp) (by simp) (by simp)) (seq_ok ((for_ok (s' := s) (ds := h.map rowD) (iSeq_ok (d := hallD h) (by simp) (items_hall h))).trans (Eq.trans (by simp [lolD]) e)) (ret_v ?_))))
  rfl
theorem HallOK.r6 {h : List (List Int)} {m : Nat} (H : HallOK h m) : ∀ r ∈ h, r.length ≤ 1000000 := fun r hr => by have := (H.row r hr).1; have := H.m8; omega
theorem leav_ok {h : List (List Int)} {t : List Int} {m : Nat} (H : HallOK h m) (Ht : DayOK t m) (o : Bool) (s : Sto) : f_leavings [hallD h, .lst o (t.map D.int)] s = .ok (lolD true false (leavFrom h t)) s := by
  have k := leavOf_ok (h := h) t false s (by have := H.l8; omega) H.r6
  exact mkFn_rt rfl (seq_ok (do_ok (s' := s) (d := .non) (by simp [need_ok H])) (seq_ok (do_ok (s' := s) (d := .non) (by simp [needd_ok H Ht])) (ret_ok (by simp [k]))))
--@ last
theorem last_ok {h : List (List Int)} {t : List Int} {m : Nat} (H : HallOK h m) (Ht : DayOK t m) (o : Bool) (s : Sto) : ∃ l, (leavFrom h t).getLast? = some l ∧ f_last [hallD h, .lst o (t.map D.int)] s = .ok (.lst false (l.map D.int)) s := by
  have hne : leavFrom h t ≠ [] := fun e => by have := leavFrom_len h t; rw [e] at this; have := H.l1; simp at *; omega
  refine ⟨_, List.getLast?_eq_some_getLast hne, ?_⟩
  have k := leavOf_ok (h := h) t false s (by have := H.l8; omega) H.r6
  have g : gIx s [lolD true false (leavFrom h t), .int (-1)] = some (.lst false (((leavFrom h t).getLast hne).map D.int)) := by
    unfold lolD
    rw [gIx_l, atI_last, List.getLast?_map, List.getLast?_eq_some_getLast hne]; rfl
  exact mkFn_rt rfl (seq_ok (do_ok (s' := s) (d := .non) (by simp [need_ok H])) (seq_ok (do_ok (s' := s) (d := .non) (by simp [needd_ok H Ht])) (ret_ok (by simp [k, g]))))
--@ waits
def waitRow : List Int → List Int → List Int → List Int
  | m :: r, t :: ts, e :: l => (e - m - t) :: waitRow r ts l
  | _, _, _ => []
theorem zip3_row : ∀ r ts l : List Int, (zip3 (r.map D.int) (ts.map D.int) (l.map D.int)).length ≤ r.length ∧ ∀ d ∈ zip3 (r.map D.int) (ts.map D.int) (l.map D.int), ∃ m t e : Int, d = .tup [.int m, .int t, .int e]
  | [], _, _ => by simp [zip3]
  | _ :: _, [], _ => by simp [zip3]
  | _ :: _, _ :: _, [] => by simp [zip3]
  | m :: r, t :: ts, e :: l => by
    have := zip3_row r ts l
    simp only [List.map_cons, zip3]
    refine ⟨by simpa using this.1, fun d hd => ?_⟩
    rcases List.mem_cons.mp hd with z | z
    · exact ⟨m, t, e, z⟩
    · exact this.2 d z
def wv : D → D
  | .tup [.int m, .int t, .int e] => .int (e - m - t)
  | d => d
theorem zip3_wv : ∀ r ts l : List Int, (zip3 (r.map D.int) (ts.map D.int) (l.map D.int)).map wv = (waitRow r ts l).map D.int
  | [], _, _ => by simp [zip3, waitRow]
  | _ :: _, [], _ => by simp [zip3, waitRow]
  | _ :: _, _ :: _, [] => by simp [zip3, waitRow]
  | m :: r, t :: ts, e :: l => by simp [zip3, waitRow, wv, zip3_wv r ts l]
theorem waits_c (x0 x1 x2 x3 x7 x8 x9 : Option D) (r ts l : List Int) (o1 o2 : Bool) (s : Sto) (hl : r.length ≤ 1000000) :
    f_waits_c1 [x0, x1, x2, x3, some (rowD r), some (.lst o1 (ts.map D.int)), some (.lst o2 (l.map D.int)), x7, x8, x9] s = .ok (.lst true ((waitRow r ts l).map D.int)) s := by
  have := mLc_map (src := iZip3 [mVar 4, mVar 5, mVar 6]) (tg := .t3 (.nm 7) (.nm 8) (.nm 9)) (vs := [7, 8, 9]) (m := mOp gSub [mOp gSub [mVar 9, mVar 7], mVar 8]) (σ := [x0, x1, x2, x3, some (rowD r), some (.lst o1 (ts.map D.int)), some (.lst o2 (l.map D.int)), x7, x8, x9]) (s := s) (s' := s)
    (ds := zip3 (r.map D.int) (ts.map D.int) (l.map D.int)) wv (iZip3_ok (a := rowD r) (b := .lst false (ts.map D.int)) (c := .lst false (l.map D.int)) (by simp) (items_row r) (items_ints _ ts) (items_ints _ l)) rfl
    (fun d hd => by
      obtain ⟨m, t, e, rfl⟩ := (zip3_row r ts l).2 d hd
      exact ⟨_, rfl, by simp [wv]⟩) (Nat.le_trans (zip3_row r ts l).1 hl)
  rw [zip3_wv] at this
  exact this
def waitsFrom : List (List Int) → List Int → List (List Int) → List (List Int)
  | r :: h, t, l :: ls => waitRow r t l :: waitsFrom h l ls
  | _, _, _ => []
theorem waits_loop (x0 x1 x2 : Option D) : ∀ (h ls acc : List (List Int)) (t : List Int) (x4 x5 x6 x7 x8 x9 : Option D) (s : Sto), acc.length + h.length ≤ 1000000 → (∀ r ∈ h, r.length ≤ 1000000) →
    ∃ y4 y5 y6 y7 y8 y9, forR (.t3 (.nm 4) (.nm 5) (.nm 6)) f_waits_b2 (zip3 (h.map rowD) ((t :: ls).map fun r => .lst false (r.map D.int)) (ls.map fun r => .lst false (r.map D.int))) [x0, x1, x2, some (lolD true true acc), x4, x5, x6, x7, x8, x9] s =
      .nx [x0, x1, x2, some (lolD true true (acc ++ waitsFrom h t ls)), y4, y5, y6, y7, y8, y9] s
  | [], ls, acc, t, x4, x5, x6, x7, x8, x9, s, _, _ => ⟨_, _, _, _, _, _, by simp [zip3, forR, waitsFrom]; exact ⟨rfl, rfl, rfl, rfl, rfl, rfl⟩⟩
  | r :: h, [], acc, t, x4, x5, x6, x7, x8, x9, s, _, _ => ⟨_, _, _, _, _, _, by simp [zip3, forR, waitsFrom]; exact ⟨rfl, rfl, rfl, rfl, rfl, rfl⟩⟩
  | r :: h, l :: ls, acc, t, x4, x5, x6, x7, x8, x9, s, hl, hr => by
    rw [List.length_cons] at hl
    obtain ⟨y4, y5, y6, y7, y8, y9, e⟩ := waits_loop x0 x1 x2 h ls (acc ++ [waitRow r t l]) l (some (rowD r)) (some (.lst false (t.map D.int))) (some (.lst false (l.map D.int))) x7 x8 x9 s (by simp; omega) fun r hr' => hr r (List.mem_cons_of_mem _ hr')
    refine ⟨y4, y5, y6, y7, y8, y9, ?_⟩
    show forR _ _ (.tup [rowD r, .lst false (t.map D.int), .lst false (l.map D.int)] :: _) _ _ = _
    rw [forR_nx (σ1 := [x0, x1, x2, some (lolD true true acc), some (rowD r), some (.lst false (t.map D.int)), some (.lst false (l.map D.int)), x7, x8, x9]) (σ2 := [x0, x1, x2, some (lolD true true (acc ++ [waitRow r t l])), some (rowD r), some (.lst false (t.map D.int)), some (.lst false (l.map D.int)), x7, x8, x9]) (s2 := s) rfl ?_]
    · refine e.trans ?_
      simp [waitsFrom]
    · unfold f_waits_b2
      refine (app_ok (s' := s) (d := .lst true ((waitRow r t l).map D.int)) (xs := acc.map fun r => .lst true (r.map D.int)) rfl (waits_c _ _ _ _ _ _ _ r t l _ _ s (hr r (by simp))) (by simp) (by have := szl; rw [List.length_map]; omega)).trans ?_
      simp [lolD]
theorem waits_ok {h : List (List Int)} {t : List Int} {m : Nat} (H : HallOK h m) (Ht : DayOK t m) (o : Bool) (s : Sto) : f_waits [hallD h, .lst o (t.map D.int)] s = .ok (lolD true true (waitsFrom h t (leavFrom h t))) s := by
  have hne : leavFrom h t ≠ [] := fun e => by have := leavFrom_len h t; rw [e] at this; have := H.l1; simp at *; omega
  have k := leavOf_ok (h := h) t false s (by have := H.l8; omega) H.r6
  obtain ⟨y4, y5, y6, y7, y8, y9, e⟩ := waits_loop (some (hallD h)) (some (.lst false (t.map D.int))) (some (lolD false false (leavFrom h t))) h (leavFrom h t) [] t none none none none none none s (by have := H.l8; simp; omega) H.r6
  have ga : gAdd s [.lst true [.lst false (t.map D.int)], lolD false false (leavFrom h t)] = some (lolD true false (t :: leavFrom h t)) := by
    have : 1 + (leavFrom h t).length ≤ sizeLine := by have := szl; have := H.l8; have := leavFrom_len h t; omega
    simp [lolD, this]
  refine mkFn_rt rfl (seq_ok (do_ok (s' := s) (d := .non) (by simp [need_ok H])) (seq_ok (do_ok (s' := s) (d := .non) (by simp [needd_ok H Ht]))
    (seq_ok (setD_F (s1 := s) (s' := s) (d := lolD true false (leavFrom h t)) (d' := lolD true false (leavFrom h t)) (by simp [k]) (noF_lolF hne true) (by simp [k]) (by simp))
    (seq_ok (setD_ok (s' := s) (d := .lst true []) (by simp [gLst_ok]) rfl (by simp))
    (seq_ok ((for_ok (s' := s) (ds := zip3 (h.map rowD) ((t :: leavFrom h t).map fun r => .lst false (r.map D.int)) ((leavFrom h t).map fun r => .lst false (r.map D.int)))
      (iZip3_ok (a := hallD h) (b := lolD true false (t :: leavFrom h t)) (c := lolD false false (leavFrom h t)) (by simp [-gAdd, gLst_ok, ga]) (items_hall h) (items_lol _ _ _) (items_lol _ _ _))).trans (Eq.trans (by simp; rfl) e)) (ret_v ?_))))))
  rfl
--@ _law_over
def diffs (a b : List Int) : List Int := List.zipWith (fun x y => y - x) a b
def overL : List (List Int) → List (List Int) → List Int
  | a :: as, b :: bs => diffs a b ++ overL as bs
  | _, _ => []
theorem zip_diffs (a b : List Int) : (a.zip b).map (fun p => D.int (p.2 - p.1)) = (diffs a b).map D.int := by
  unfold diffs
  rw [List.zip_eq_zipWith, List.map_zipWith, List.map_zipWith]
def ov : D → D
  | .tup [.int x, .int y] => .int (y - x)
  | d => d
theorem over_c (x0 x1 x2 x5 x6 : Option D) (a b : List Int) (o1 o2 : Bool) (s : Sto) (hl : a.length ≤ 1000000) :
    f__law_over_c1 [x0, x1, x2, some (.lst o1 (a.map D.int)), some (.lst o2 (b.map D.int)), x5, x6] s = .ok (.lst true ((diffs a b).map D.int)) s := by
  have := mLc_map (src := iZip2 [mVar 3, mVar 4]) (tg := .t2 (.nm 5) (.nm 6)) (vs := [5, 6]) (m := mOp gSub [mVar 6, mVar 5]) (σ := [x0, x1, x2, some (.lst o1 (a.map D.int)), some (.lst o2 (b.map D.int)), x5, x6]) (s := s) (s' := s)
    (ds := zip2 (a.map D.int) (b.map D.int)) ov (iZip2_ok (a := .lst false (a.map D.int)) (b := .lst false (b.map D.int)) (by simp) (items_ints _ a) (items_ints _ b)) rfl
    (fun d hd => by
      rw [zip2_map] at hd
      obtain ⟨⟨x, y⟩, _, rfl⟩ := List.mem_map.mp hd
      exact ⟨_, rfl, by simp [ov]⟩) (by rw [zip2_map]; simp; omega)
  rw [zip2_map, List.map_map] at this
  rw [← zip_diffs]
  exact this
theorem over_loop (x0 x1 : Option D) : ∀ (as bs : List (List Int)) (acc : List Int) (x3 x4 x5 x6 : Option D) (s : Sto), acc.length + 8 * as.length ≤ 1000000 → (∀ r ∈ as, r.length ≤ 8) →
    ∃ y3 y4 y5 y6, forR (.t2 (.nm 3) (.nm 4)) f__law_over_b2 (zip2 (as.map fun r => .lst false (r.map D.int)) (bs.map fun r => .lst false (r.map D.int))) [x0, x1, some (.lst true (acc.map D.int)), x3, x4, x5, x6] s =
      .nx [x0, x1, some (.lst true ((acc ++ overL as bs).map D.int)), y3, y4, y5, y6] s
  | [], bs, acc, x3, x4, x5, x6, s, _, _ => ⟨_, _, _, _, by simp [zip2, forR, overL]; exact ⟨rfl, rfl, rfl, rfl⟩⟩
  | a :: as, [], acc, x3, x4, x5, x6, s, _, _ => ⟨_, _, _, _, by simp [zip2, forR, overL]; exact ⟨rfl, rfl, rfl, rfl⟩⟩
  | a :: as, b :: bs, acc, x3, x4, x5, x6, s, hl, hr => by
    rw [List.length_cons] at hl
    have ha := hr a (by simp)
    have hd : (diffs a b).length ≤ 8 := by unfold diffs; rw [List.length_zipWith]; omega
    obtain ⟨y3, y4, y5, y6, e⟩ := over_loop x0 x1 as bs (acc ++ diffs a b) (some (.lst false (a.map D.int))) (some (.lst false (b.map D.int))) x5 x6 s (by rw [List.length_append]; omega) fun r hr' => hr r (List.mem_cons_of_mem _ hr')
    refine ⟨y3, y4, y5, y6, ?_⟩
    show forR _ _ (.tup [.lst false (a.map D.int), .lst false (b.map D.int)] :: zip2 _ _) _ _ = _
    rw [forR_nx (σ1 := [x0, x1, some (.lst true (acc.map D.int)), some (.lst false (a.map D.int)), some (.lst false (b.map D.int)), x5, x6]) (σ2 := [x0, x1, some (.lst true ((acc ++ diffs a b).map D.int)), some (.lst false (a.map D.int)), some (.lst false (b.map D.int)), x5, x6]) (s2 := s) rfl ?_]
    · refine e.trans ?_
      simp [overL]
    · have k := over_c x0 x1 (some (.lst true (acc.map D.int))) x5 x6 a b false false s (by omega)
      have hz : acc.length + (diffs a b).length ≤ sizeLine := by have := szl; omega
      simp [f__law_over_b2, mUpd, k, uExt, hz]
theorem over_ok {as bs : List (List Int)} (o o' p p' : Bool) (s : Sto) (hl : as.length ≤ 8) (hr : ∀ r ∈ as, r.length ≤ 8) : f__law_over [lolD o o' as, lolD p p' bs] s = .ok (.lst true ((overL as bs).map D.int)) s := by
  obtain ⟨y3, y4, y5, y6, e⟩ := over_loop (some (lolD false false as)) (some (lolD false false bs)) as bs [] none none none none s (by simp; omega) hr
  refine mkFn_rt rfl (seq_ok (setD_ok (s' := s) (d := .lst true []) (by simp [gLst_ok]) rfl (by simp))
    (seq_ok ((for_ok (s' := s) (ds := zip2 (as.map fun r => .lst false (r.map D.int)) (bs.map fun r => .lst false (r.map D.int))) (iZip2_ok (a := lolD false false as) (b := lolD false false bs) (by simp) (items_lol _ _ _) (items_lol _ _ _))).trans (Eq.trans (by simp) e)) (ret_v ?_)))
  rfl
end Zm
set_option linter.all false
set_option autoImplicit false
set_option maxRecDepth 100000
namespace Zm
open PySem
/-! the plain law of leavings -/
inductive Btw (c : Int) : List Int → List Int → Prop
  | nil : Btw c [] []
  | cons {a b : Int} {as bs : List Int} : a ≤ b → b ≤ a + c → Btw c as bs → Btw c (a :: as) (b :: bs)
theorem Btw.refl {c : Int} (h : 0 ≤ c) : ∀ l, Btw c l l
  | [] => .nil
  | x :: l => .cons (by omega) (by omega) (Btw.refl h l)
theorem Btw.len {c : Int} {as bs : List Int} (h : Btw c as bs) : as.length = bs.length := by induction h <;> simp_all
theorem Btw.left {c : Int} (hc : 0 ≤ c) {ts us : List Int} (h : Btw c ts us) : ∀ {row : List Int} {f g : Int}, f ≤ g → g ≤ f + c → Btw c (leftFrom f row ts) (leftFrom g row us) := by
  induction h with
  | nil => intro row f g _ _; cases row <;> exact .nil
  | cons h1 h2 _ ih =>
    intro row f g h3 h4
    cases row with
    | nil => exact .nil
    | cons a row => exact .cons (by omega) (by omega) (ih (by omega) (by omega))
inductive BtwL (c : Int) : List (List Int) → List (List Int) → Prop
  | nil : BtwL c [] []
  | cons {a b : List Int} {as bs : List (List Int)} : Btw c a b → BtwL c as bs → BtwL c (a :: as) (b :: bs)
theorem BtwL.leav {c : Int} (hc : 0 ≤ c) : ∀ (h : List (List Int)) {ts us : List Int}, Btw c ts us → BtwL c (leavFrom h ts) (leavFrom h us)
  | [], _, _, _ => .nil
  | r :: h, _, _, b => .cons (b.left hc (Int.le_refl 0) (by omega)) (BtwL.leav hc h (b.left hc (Int.le_refl 0) (by omega)))
theorem Btw.diffs {c : Int} {a b : List Int} (h : Btw c a b) : ∀ x ∈ diffs a b, 0 ≤ x ∧ x ≤ c := by
  induction h with
  | nil => intro x hx; simp [Zm.diffs] at hx
  | cons h1 h2 _ ih =>
    intro x hx
    simp only [Zm.diffs, List.zipWith_cons_cons, List.mem_cons] at hx
    rcases hx with rfl | hx
    · omega
    · exact ih x hx
theorem BtwL.over {c : Int} {as bs : List (List Int)} (h : BtwL c as bs) : ∀ x ∈ overL as bs, 0 ≤ x ∧ x ≤ c := by
  induction h with
  | nil => intro x hx; simp [overL] at hx
  | cons h1 _ ih =>
    intro x hx
    simp only [overL, List.mem_append] at hx
    rcases hx with hx | hx
    · exact h1.diffs x hx
    · exact ih x hx
/-! only what is ahead counts -/
theorem left_take : ∀ (row ts : List Int) (f : Int) (k : Nat), (leftFrom f row ts).take k = leftFrom f (row.take k) (ts.take k)
  | [], _, _, k => by simp [leftFrom]
  | _ :: _, [], _, k => by cases k <;> simp [leftFrom]
  | a :: row, t :: ts, f, 0 => by simp [leftFrom]
  | a :: row, t :: ts, f, k + 1 => by simp [leftFrom, left_take row ts _ k]
theorem leav_take : ∀ (h : List (List Int)) (ts : List Int) (k : Nat), (leavFrom h ts).map (·.take k) = leavFrom (h.map (·.take k)) (ts.take k)
  | [], _, _ => rfl
  | r :: h, ts, k => by
    simp only [leavFrom, List.map_cons]
    rw [leav_take h, show (leftAt r ts).take k = leftAt (r.take k) (ts.take k) from left_take r ts 0 k]
theorem leav_rows : ∀ (h : List (List Int)) (ts : List Int) (k : Nat), (leavFrom h ts).take k = leavFrom (h.take k) ts
  | [], _, _ => by simp [leavFrom]
  | r :: h, ts, 0 => by simp [leavFrom]
  | r :: h, ts, k + 1 => by simp [leavFrom, leav_rows h]
/-- the times at which those come who come to the last of h -/
def inTo : List (List Int) → List Int → List Int
  | [], ts => ts
  | r :: h, ts => inTo h (leftAt r ts)
theorem leav_append : ∀ (h g : List (List Int)) (ts : List Int), leavFrom (h ++ g) ts = leavFrom h ts ++ leavFrom g (inTo h ts)
  | [], _, _ => rfl
  | r :: h, g, ts => by simp [leavFrom, inTo, leav_append h]
theorem left_nn : ∀ (row ts : List Int) (f : Int), 0 ≤ f → Nn row → Nn (leftFrom f row ts)
  | [], _, _, _, _ => by intro x hx; simp [leftFrom] at hx
  | _ :: _, [], _, _, _ => by intro x hx; simp [leftFrom] at hx
  | a :: row, t :: ts, f, hf, hn => by
    have ha := hn a (by simp)
    intro x hx
    simp only [leftFrom, List.mem_cons] at hx
    rcases hx with rfl | hx
    · omega
    · exact left_nn row ts _ (by omega) (fun y hy => hn y (by simp [hy])) x hx
/-! all later -/
theorem left_shift : ∀ (row ts : List Int) (f c : Int), leftFrom (f + c) row (ts.map (· + c)) = (leftFrom f row ts).map (· + c)
  | [], _, _, _ => by simp [leftFrom]
  | _ :: _, [], _, _ => by simp [leftFrom]
  | a :: row, t :: ts, f, c => by
    have e : max (f + c) (t + c) + a = (max f t + a) + c := by omega
    simp only [leftFrom, List.map_cons, e, left_shift row ts]
theorem left_start (row ts : List Int) (f : Int) (hf : 0 ≤ f) (h : ∀ t ∈ ts, f ≤ t) : leftFrom f row ts = leftFrom 0 row ts := by
  cases row with
  | nil => rfl
  | cons a row =>
    cases ts with
    | nil => rfl
    | cons t ts =>
      have := h t (by simp)
      have e : max f t = max 0 t := by omega
      simp only [leftFrom, e]
theorem leftAt_shift (row ts : List Int) (c : Int) (hc : 0 ≤ c) (h : Nn ts) : leftAt row (ts.map (· + c)) = (leftAt row ts).map (· + c) := by
  unfold leftAt
  rw [← left_shift row ts 0 c, left_start row (ts.map (· + c)) (0 + c) (by omega) fun t ht => by
    obtain ⟨x, hx, rfl⟩ := List.mem_map.mp ht
    have := h x hx
    omega]
theorem leav_shift : ∀ (h : List (List Int)) (ts : List Int) (c : Int), 0 ≤ c → Nn ts → (∀ r ∈ h, Nn r) → leavFrom h (ts.map (· + c)) = (leavFrom h ts).map (·.map (· + c))
  | [], _, _, _, _, _ => rfl
  | r :: h, ts, c, hc, hn, hr => by
    simp only [leavFrom, List.map_cons]
    rw [leftAt_shift r ts c hc hn, leav_shift h (leftAt r ts) c hc (left_nn r ts 0 (Int.le_refl 0) (hr r (by simp))) fun r' hr' => hr r' (by simp [hr'])]
theorem wait_shift (c : Int) : ∀ r ts l : List Int, waitRow r (ts.map (· + c)) (l.map (· + c)) = waitRow r ts l
  | [], _, _ => by simp [waitRow]
  | _ :: _, [], _ => by simp [waitRow]
  | _ :: _, _ :: _, [] => by simp [waitRow]
  | m :: r, t :: ts, e :: l => by
    simp only [List.map_cons, waitRow, wait_shift c r ts l, List.cons.injEq, and_true]; omega
theorem waits_shift (c : Int) : ∀ (h : List (List Int)) (t : List Int) (ls : List (List Int)), waitsFrom h (t.map (· + c)) (ls.map (·.map (· + c))) = waitsFrom h t ls
  | [], _, _ => by simp [waitsFrom]
  | _ :: _, _, [] => by simp [waitsFrom]
  | r :: h, t, l :: ls => by simp only [List.map_cons, waitsFrom, wait_shift, waits_shift c h l ls]
/-! the later of two days -/
def maxs (a b : List Int) : List Int := List.zipWith max a b
theorem left_max : ∀ (row ts us : List Int) (f g : Int), ts.length = us.length → leftFrom (max f g) row (maxs ts us) = maxs (leftFrom f row ts) (leftFrom g row us)
  | [], _, _, _, _, _ => by simp [leftFrom, maxs]
  | _ :: _, [], [], _, _, _ => by simp [leftFrom, maxs]
  | _ :: _, [], _ :: _, _, _, h => by simp at h
  | _ :: _, _ :: _, [], _, _, h => by simp at h
  | a :: row, t :: ts, u :: us, f, g, h => by
    have := left_max row ts us (max f t + a) (max g u + a) (by simpa using h)
    have e : max (max f g) (max t u) + a = max (max f t + a) (max g u + a) := by omega
    simp only [maxs, List.zipWith_cons_cons, leftFrom, e] at this ⊢
    rw [this]
theorem leav_max : ∀ (h : List (List Int)) (ts us : List Int), ts.length = us.length → (∀ r ∈ h, r.length = ts.length) → leavFrom h (maxs ts us) = List.zipWith maxs (leavFrom h ts) (leavFrom h us)
  | [], _, _, _, _ => rfl
  | r :: h, ts, us, hl, hr => by
    have h0 := hr r (by simp)
    have l1 : (leftAt r ts).length = r.length := leftFrom_len r ts 0 h0
    have l2 : (leftAt r us).length = r.length := leftFrom_len r us 0 (by omega)
    have := left_max r ts us 0 0 hl
    simp only [leavFrom, List.zipWith_cons_cons]
    rw [show leftAt r (maxs ts us) = maxs (leftAt r ts) (leftAt r us) by simpa [leftAt] using this]
    rw [leav_max h _ _ (by omega) fun r' hr' => by rw [l1, h0]; exact hr r' (by simp [hr'])]
/-! between two who leave -/
theorem left_gap : ∀ (row ts : List Int) (f : Int) (p : Nat) (a b : Int), (f :: leftFrom f row ts)[p]? = some a → (leftFrom f row ts)[p]? = some b → ∃ m, row[p]? = some m ∧ a + m ≤ b
  | [], _, _, _, _, _, _, h => by simp [leftFrom] at h
  | _ :: _, [], _, _, _, _, _, h => by simp [leftFrom] at h
  | m :: row, t :: ts, f, 0, a, b, h1, h2 => by
    simp [leftFrom] at h1 h2
    exact ⟨m, rfl, by omega⟩
  | m :: row, t :: ts, f, p + 1, a, b, h1, h2 => by
    simp only [leftFrom, List.getElem?_cons_succ] at h1 h2
    obtain ⟨m', e, h⟩ := left_gap row ts _ p a b h1 h2
    exact ⟨m', by simpa using e, h⟩
/-! more minutes at one cell -/
theorem left_more : ∀ (pre post ts : List Int) (x more f : Int), 0 ≤ more → pre.length < ts.length → ts.length = pre.length + 1 + post.length →
    Btw more (leftFrom f (pre ++ x :: post) ts) (leftFrom f (pre ++ (x + more) :: post) ts) ∧ ∃ y, (leftFrom f (pre ++ x :: post) ts)[pre.length]? = some y ∧ (leftFrom f (pre ++ (x + more) :: post) ts)[pre.length]? = some (y + more)
  | [], post, t :: ts, x, more, f, hm, h1, h2 => by
    simp only [List.nil_append, leftFrom, List.length_nil, List.getElem?_cons_zero]
    exact ⟨.cons (by omega) (by omega) ((Btw.refl hm ts).left hm (by omega) (by omega)), _, rfl, by congr 1; omega⟩
  | p :: pre, post, t :: ts, x, more, f, hm, h1, h2 => by
    simp only [List.length_cons] at h1 h2
    obtain ⟨b, y, e1, e2⟩ := left_more pre post ts x more (max f t + p) hm (by omega) (by omega)
    simp only [List.cons_append, leftFrom, List.length_cons, List.getElem?_cons_succ]
    exact ⟨.cons (by omega) (by omega) b, y, e1, e2⟩
  | [], _, [], _, _, _, _, h, _ => by simp at h
  | _ :: _, _, [], _, _, _, _, h, _ => by simp at h
theorem BtwL.refl {c : Int} (h : 0 ≤ c) : ∀ l, BtwL c l l
  | [] => .nil
  | x :: l => .cons (Btw.refl h x) (BtwL.refl h l)
theorem BtwL.append {c : Int} {as bs as' bs' : List (List Int)} (h : BtwL c as bs) (h' : BtwL c as' bs') : BtwL c (as ++ as') (bs ++ bs') := by
  induction h with
  | nil => exact h'
  | cons h1 _ ih => exact .cons h1 ih
/-! ### _law_late_right -/
theorem minI_le : ∀ (xs : List Int) (x y : Int), y ≤ x → (∀ z ∈ xs, y ≤ z) → y ≤ minI x xs := by
  intro xs
  unfold minI
  induction xs with
  | nil => intro x y h _; exact h
  | cons z xs ih =>
    intro x y h h2
    rw [List.foldl_cons]
    have hz := h2 z (by simp)
    refine ih _ y ?_ fun w hw => h2 w (by simp [hw])
    split <;> omega
theorem maxI_le : ∀ (xs : List Int) (x y : Int), x ≤ y → (∀ z ∈ xs, z ≤ y) → maxI x xs ≤ y := by
  intro xs
  unfold maxI
  induction xs with
  | nil => intro x y h _; exact h
  | cons z xs ih =>
    intro x y h h2
    rw [List.foldl_cons]
    have hz := h2 z (by simp)
    refine ih _ y ?_ fun w hw => h2 w (by simp [hw])
    split <;> omega
theorem gMinA_l {s : Sto} {o : Bool} {x : Int} {xs : List Int} : gMinA s [.lst o ((x :: xs).map D.int)] = some (.int (minI x xs)) := by
  have : gMinL s [.lst o ((x :: xs).map D.int)] = some (.int (minI x xs)) := by simp only [gMinL, intsIn, toInts_map, Option.bind_some]
  simp only [gMinA, this]
theorem gMaxA_l {s : Sto} {o : Bool} {x : Int} {xs : List Int} : gMaxA s [.lst o ((x :: xs).map D.int)] = some (.int (maxI x xs)) := by
  have : gMaxL s [.lst o ((x :: xs).map D.int)] = some (.int (maxI x xs)) := by simp only [gMaxL, intsIn, toInts_map, Option.bind_some]
  simp only [gMaxA, this]
/-- a list between 0 and c, not empty -/
theorem over_tests {s : Sto} {o : Bool} {l : List Int} {c : Int} (hl : l ≠ []) (h : ∀ x ∈ l, 0 ≤ x ∧ x ≤ c) : ∃ a b, gMinA s [.lst o (l.map D.int)] = some (.int a) ∧ gMaxA s [.lst o (l.map D.int)] = some (.int b) ∧ 0 ≤ a ∧ b ≤ c := by
  cases l with
  | nil => exact absurd rfl hl
  | cons x xs =>
    have hx := h x (by simp)
    exact ⟨_, _, gMinA_l, gMaxA_l, minI_le xs x 0 hx.1 fun z hz => (h z (by simp [hz])).1, maxI_le xs x c hx.2 fun z hz => (h z (by simp [hz])).2⟩
theorem at2_lt {a b : Int} {r : Int} (h0 : 0 ≤ r) (h3 : r < 2) : L2.atI [D.int a, D.int b] r = some (D.int a) ∨ L2.atI [D.int a, D.int b] r = some (D.int b) := by
  rcases (by omega : r = 0 ∨ r = 1) with rfl | rfl
  · exact .inl rfl
  · exact .inr rfl
/-- a dip of a drawn width -/
theorem dip_wide {s : Sto} {n C : Nat} (hw : Well s n C) (hC : C + 2 < 2 ^ 100) : ∃ r r1 s1 s2 w, f__law_dip [.box n, .int 2] s = .ok (.int r1) s1 ∧ gIx s1 [.lst true [.int 5, .int 100000000000], .int r1] = some (.int w) ∧ f__law_dip [.box n, .int w] s1 = .ok (.int r) s2 ∧ 0 ≤ r ∧ r < 100000000000 ∧ Well s2 n (C + 2) := by
  obtain ⟨r1, s1, e1, p1, q1, w1⟩ := dip_ok hw (by omega) (show (0 : Int) < 2 by decide) (by decide)
  rcases at2_lt (a := 5) (b := 100000000000) p1 q1 with h | h
  · obtain ⟨r, s2, e2, p2, q2, w2⟩ := dip_ok w1 (by omega) (show (0 : Int) < 5 by decide) (by decide)
    exact ⟨r, r1, s1, s2, 5, e1, h, e2, p2, by omega, w2⟩
  · obtain ⟨r, s2, e2, p2, q2, w2⟩ := dip_ok w1 (by omega) (show (0 : Int) < 100000000000 by decide) (by decide)
    exact ⟨r, r1, s1, s2, _, e1, h, e2, p2, by omega, w2⟩
def lateDay (t : List Int) (w : Nat) (x : Int) : List Int := t.take w ++ (t.drop w).map (max · x)
theorem lateDay_btw : ∀ (t : List Int) (w : Nat) (v c : Int), 0 ≤ c → t.Pairwise (· ≤ ·) → t[w]? = some v → Btw c t (lateDay t w (v + c))
  | [], _, _, _, _, _, h => by simp at h
  | a :: t, 0, v, c, hc, hp, h => by
    simp at h
    subst h
    have : ∀ (l : List Int), (∀ y ∈ l, a ≤ y) → Btw c l (l.map (max · (a + c))) := by
      intro l
      induction l with
      | nil => intro _; exact .nil
      | cons y l ih =>
        intro hy
        have := hy y (by simp)
        exact .cons (by show y ≤ max y (a + c); omega) (by show max y (a + c) ≤ y + c; omega) (ih fun z hz => hy z (by simp [hz]))
    exact this (a :: t) fun y hy => by
      rcases List.mem_cons.mp hy with rfl | hy
      · exact Int.le_refl _
      · exact (List.pairwise_cons.mp hp).1 y hy
  | a :: t, w + 1, v, c, hc, hp, h => by
    have := lateDay_btw t w v c hc (List.pairwise_cons.mp hp).2 (by simpa using h)
    exact .cons (by omega) (by omega) this
theorem lateDay_up {t : List Int} {w : Nat} {v c : Int} (hc : 0 ≤ c) (hp : t.Pairwise (· ≤ ·)) (h : t[w]? = some v) : (lateDay t w (v + c)).Pairwise (· ≤ ·) := by
  unfold lateDay
  have hw : w < t.length := (List.getElem?_eq_some_iff.mp h).1
  have hv : t[w] = v := (List.getElem?_eq_some_iff.mp h).2
  rw [List.pairwise_append]
  refine ⟨hp.sublist (List.take_sublist _ _), ?_, fun a ha b hb => ?_⟩
  · rw [List.pairwise_map]
    exact (hp.sublist (List.drop_sublist _ _)).imp fun h => by omega
  · obtain ⟨y, hy, rfl⟩ := List.mem_map.mp hb
    obtain ⟨i, hi, rfl⟩ := List.getElem_of_mem ha
    rw [List.length_take] at hi
    rw [List.getElem_take]
    have := List.pairwise_iff_getElem.mp hp i w (by omega) hw (by omega)
    omega
theorem lateDay_ok {t : List Int} {m w : Nat} {v c : Int} (H : DayOK t m) (hc : 0 ≤ c) (h : t[w]? = some v) : DayOK (lateDay t w (v + c)) m := by
  have b := lateDay_btw t w v c hc H.up h
  refine ⟨by rw [← b.len]; exact H.len, fun x hx => ?_, lateDay_up hc H.up h⟩
  unfold lateDay at hx
  rcases List.mem_append.mp hx with z | z
  · exact H.nn x (List.mem_of_mem_take z)
  · obtain ⟨y, hy, rfl⟩ := List.mem_map.mp z
    have := H.nn y (List.mem_of_mem_drop hy)
    omega
theorem leav_ne {h : List (List Int)} {m : Nat} (H : HallOK h m) (t : List Int) : leavFrom h t ≠ [] := fun e => by have := leavFrom_len h t; rw [e] at this; have := H.l1; simp at *; omega
theorem leav_in {h : List (List Int)} {m : Nat} (hr : ∀ r ∈ h, r.length = m) : ∀ {t : List Int}, t.length = m → ∀ l ∈ leavFrom h t, l.length = m := by
  induction h with
  | nil => intro t _ l hl; simp [leavFrom] at hl
  | cons r h ih =>
    intro t ht l hl
    have h0 := hr r (by simp)
    have l1 : (leftAt r t).length = m := by have := leftFrom_len r t 0 (by omega); unfold leftAt; omega
    simp only [leavFrom, List.mem_cons] at hl
    rcases hl with rfl | hl
    · exact l1
    · exact ih (fun r' hr' => hr r' (by simp [hr'])) l1 l hl
theorem over_ne {as bs : List (List Int)} {c : Int} (h : BtwL c as bs) (ha : as ≠ []) {m : Nat} (hm : 1 ≤ m) (hl : ∀ a ∈ as, a.length = m) : overL as bs ≠ [] := by
  cases h with
  | nil => exact absurd rfl ha
  | @cons a b as bs h1 _ =>
    intro e
    simp only [overL, List.append_eq_nil_iff] at e
    have h2 := congrArg List.length e.1
    unfold diffs at h2
    rw [List.length_zipWith, ← h1.len, Nat.min_self, List.length_nil] at h2
    have := hl a (by simp)
    omega
theorem comp_take {nm : Nat} (σ : Env) (s : Sto) (o o' : Bool) (L : List (List Int)) (w v x : Nat) (hx : x < σ.length) (hn : (wipeE (fzE σ) [x])[v]? = some (some (.int (w : Nat)))) (hne : v ≠ x) (hv : σ[nm]? = some (some (lolD o o' L))) (hL : L.length ≤ 1000000) :
    mLc (iSeq (mVar nm)) (.nm x) [x] tTrue (mOp gSl01 [mVar x, mVar v]) σ s = .ok (lolD true true (L.map (·.take w))) s := by
  have hlen : (wipeE (fzE σ) [x]).length = σ.length := by simp
  have := mLc_map (src := iSeq (mVar nm)) (tg := .nm x) (vs := [x]) (m := mOp gSl01 [mVar x, mVar v]) (σ := σ) (s := s) (s' := s) (ds := L.map fun r => .lst false (r.map D.int)) (fun d => match d with
    | .lst _ xs => .lst true (xs.take w)
    | d => d) (iSeq_ok (d := lolD false false L) (by simp [hv]) (items_lol _ _ _)) (by simp [Tg.within, Tg.slots]) (fun d hd => by
      obtain ⟨r, _, rfl⟩ := List.mem_map.mp hd
      refine ⟨(wipeE (fzE σ) [x]).set x (some (.lst false (r.map D.int))), by unfold Tg.bind; rw [if_pos (by rw [hlen]; exact hx)], ?_⟩
      have e1 : ((wipeE (fzE σ) [x]).set x (some (.lst false (r.map D.int))))[x]? = some (some (.lst false (r.map D.int))) := List.getElem?_set_self (by rw [hlen]; exact hx)
      have e2 : ((wipeE (fzE σ) [x]).set x (some (.lst false (r.map D.int))))[v]? = some (some (.int (w : Nat))) := by rw [List.getElem?_set_ne (fun z => hne z.symm)]; exact hn
      have e3 : gSl01 s [.lst false (r.map D.int), .int (w : Nat)] = some (.lst true ((r.map D.int).take w)) := by
        have : gSl01 s [.lst false (r.map D.int), .int (w : Nat)] = some (.lst true (cutD (r.map D.int) none (some (w : Int)))) := rfl
        rw [this, cut_to]
      simp only [mOp, mArgs, mVar, e1, e2, fz, fz_ints, R.bind_ok, e3, R.of_some]) (by rw [List.length_map]; exact hL)
  rw [this, lolD, List.map_map, List.map_map]
  congr 2
  exact List.map_congr_left fun r _ => by simp [List.map_take]
theorem late_c3 (x0 x1 x5 x6 x7 x8 x9 x10 : Option D) (o : Bool) (t : List Int) (w : Nat) (v late : Int) (hv : t[w]? = some v) (hl : t.length ≤ 1000000) (s : Sto) :
    f__law_late_right_c3 [x0, x1, some (.lst o (t.map D.int)), some (.int (w : Nat)), some (.int late), x5, x6, x7, x8, x9, x10] s = .ok (.lst true (((t.drop w).map (max · (v + late))).map D.int)) s := by
  have e3 : gSl10 s [.lst false (t.map D.int), .int (w : Nat)] = some (.lst true ((t.drop w).map D.int)) := by
    have : gSl10 s [.lst false (t.map D.int), .int (w : Nat)] = some (.lst true (cutD (t.map D.int) (some (w : Int)) none)) := rfl
    rw [this, cut_from, List.map_drop]
  have e4 : gIx s [.lst false (t.map D.int), .int (w : Nat)] = some (.int v) := by rw [gIx_l, atI_nat, List.getElem?_map, hv]; rfl
  have := mLc_map (src := iSeq (mOp gSl10 [mVar 2, mVar 3])) (tg := .nm 6) (vs := [6]) (m := mOp gMax2 [mVar 6, mOp gAdd [mOp gIx [mVar 2, mVar 3], mVar 4]]) (σ := [x0, x1, some (.lst o (t.map D.int)), some (.int (w : Nat)), some (.int late), x5, x6, x7, x8, x9, x10]) (s := s) (s' := s) (ds := (t.drop w).map D.int)
    (fun d => match d with
    | .int x => .int (max x (v + late))
    | d => d) (iSeq_ok (d := .lst true ((t.drop w).map D.int)) (by simp [e3]) (items_ints _ _)) rfl (fun d hd => by
      obtain ⟨x, _, rfl⟩ := List.mem_map.mp hd
      exact ⟨_, rfl, by simp [e4, max_if]⟩) (by simp; omega)
  rw [List.map_map] at this ⊢
  exact this
theorem late_ok {s : Sto} {n C m : Nat} {h : List (List Int)} {t : List Int} (hw : Well s n C) (hC : C + 10 < 2 ^ 100) (H : HallOK h m) (Ht : DayOK t m) (o : Bool) :
    ∃ s', f__law_late_right [.box n, hallD h, .lst o (t.map D.int)] s = .ok (.bl true) s' ∧ Well s' n (C + 10) := by
  have hm1 := H.m1
  have hm8 := H.m8
  have tl := Ht.len
  obtain ⟨who, s1, e1, p1, q1, w1⟩ := dip_ok hw (by omega) (show (0 : Int) < (m : Int) by omega) (by omega)
  obtain ⟨late, r1, s2, s3, wd, e2, e3, e4, p4, q4, w3⟩ := dip_wide w1 (by omega)
  obtain ⟨w, rfl⟩ : ∃ w : Nat, who = (w : Int) := ⟨who.toNat, by omega⟩
  have hwl : w < t.length := by omega
  obtain ⟨v, hv⟩ : ∃ v, t[w]? = some v := ⟨_, List.getElem?_eq_getElem hwl⟩
  have Ho : DayOK (lateDay t w (v + late)) m := lateDay_ok Ht p4 hv
  have bt := lateDay_btw t w v late p4 Ht.up hv
  have bl := BtwL.leav p4 h bt
  have ho := over_ne bl (leav_ne H t) hm1 (leav_in (fun r hr => (H.row r hr).1) tl)
  have L1 := leav_ok H Ht false s3
  have L2 := leav_ok H Ho false s3
  have hL : (leavFrom h t).length ≤ 8 := by rw [leavFrom_len]; exact H.l8
  have hL2 : (leavFrom h (lateDay t w (v + late))).length ≤ 8 := by rw [leavFrom_len]; exact H.l8
  have ov := over_ok (as := leavFrom h t) (bs := leavFrom h (lateDay t w (v + late))) false false false false s3 hL (fun r hr => by have := leav_in (fun r hr => (H.row r hr).1) tl r hr; omega)
  obtain ⟨a, b, g1, g2, g3, g4⟩ := over_tests (s := s3) (o := false) ho bl.over
  have tk : (lateDay t w (v + late)).take w = t.take w := by
    unfold lateDay
    rw [List.take_append_of_le_length (by rw [List.length_take]; omega), List.take_take, Nat.min_self]
  have eq : (leavFrom h t).map (·.take w) = (leavFrom h (lateDay t w (v + late))).map (·.take w) := by rw [leav_take, leav_take, tk]
  refine ⟨s3, ?_, w3.mono (by omega)⟩
  have gl : ∀ s, gLen s [.lst false (t.map D.int)] = some (.int (m : Nat)) := fun s => by simp [tl]
  have ga : gAdd s3 [.lst true ((t.take w).map D.int), .lst true (((t.drop w).map (max · (v + late))).map D.int)] = some (.lst true ((lateDay t w (v + late)).map D.int)) := by
    have : min w t.length + (t.length - w) ≤ sizeLine := by have := szl; omega
    simp [lateDay, this]
  have gs : gSl01 s3 [.lst false (t.map D.int), .int (w : Nat)] = some (.lst true ((t.take w).map D.int)) := by
    have : gSl01 s3 [.lst false (t.map D.int), .int (w : Nat)] = some (.lst true (cutD (t.map D.int) none (some (w : Int)))) := rfl
    rw [this, cut_to, List.map_take]
  let x5 := D.lst true ((lateDay t w (v + late)).map D.int)
  let A := leavFrom h t
  let B := leavFrom h (lateDay t w (v + late))
  refine mkFn_rt rfl (seq_ok (setD_ok (s' := s1) (d := .int (w : Nat)) (by simp [-gLen, gl, e1]) rfl (by simp))
    (seq_ok (setD_ok (s' := s3) (d := .int late) (by simp [gLst_ok, p10, e2, e3, e4]) rfl (by simp))
    (seq_ok (setD_ok (s' := s3) (d := x5) ?_ (by simp [x5]) (by simp))
    (seq_ok (σ1 := [some (.box n), some (hallD h), some (.lst false (t.map D.int)), some (.int (w : Nat)), some (.int late), some (.lst false ((lateDay t w (v + late)).map D.int)), none, some (lolD false false A), some (lolD false false B), none, none]) (s1 := s3) ?_
    (seq_ok (setD_ok (s' := s3) (d := .lst true ((overL A B).map D.int)) (by simp [ov, A, B]) (by simp) (by simp))
    (seq_ok (σ1 := [some (.box n), some (hallD h), some (.lst false (t.map D.int)), some (.int (w : Nat)), some (.int late), some (.lst false ((lateDay t w (v + late)).map D.int)), none, some (lolD false false A), some (lolD false false B), some (.lst true ((overL A B).map D.int)), none]) (s1 := s3) ?_
    (ret_ok ?_)))))))
  · have := late_c3 (some (.box n)) (some (hallD h)) none none none none none none o t w v late hv (by omega) s3
    simp [-gAdd, -List.map_take, -List.map_drop, -List.map_map, gs, ga, x5, this]
  · show mPar2 _ 7 8 [mCall f_leavings [mVar 1, mVar 2], mCall f_leavings [mVar 1, mVar 5]] _ _ = _
    simp [mPar2, x5, L1, L2, A, B, noF_lolF (leav_ne H t)]
  · refine if_f (s' := s3) ?_ rfl
    have gc1 : gLt s3 [.int a, .int 0] = some (.bl false) := by simp; omega
    have gc2 : gGt s3 [.int b, .int late] = some (.bl false) := by simp; omega
    simp only [A, B] at g1 g2 ⊢
    simp [-gLt, -gGt, g1, g2, gc1, gc2]
  · have c1 := comp_take (nm := 7) [some (.box n), some (hallD h), some (.lst false (t.map D.int)), some (.int (w : Nat)), some (.int late), some (.lst false ((lateDay t w (v + late)).map D.int)), none, some (lolD false false A), some (lolD false false B), some (.lst true ((overL A B).map D.int)), none] s3 false false A w 3 10 (by simp) rfl (by decide) rfl (Nat.le_trans hL (by decide))
    have c2 := comp_take (nm := 8) [some (.box n), some (hallD h), some (.lst false (t.map D.int)), some (.int (w : Nat)), some (.int late), some (.lst false ((lateDay t w (v + late)).map D.int)), none, some (lolD false false A), some (lolD false false B), some (.lst true ((overL A B).map D.int)), none] s3 false false B w 3 10 (by simp) rfl (by decide) rfl (Nat.le_trans hL2 (by decide))
    rw [show A.map (·.take w) = B.map (·.take w) from eq] at c1
    have cT : Cmp (lolD true true (B.map fun r : List Int => r.take w)) _ := Cmp.lol true true (B.map fun r : List Int => r.take w)
    refine op_ok (ds := [lolD true true (B.map fun r : List Int => r.take w), lolD true true (B.map fun r : List Int => r.take w)]) (s' := s3) ?_ (eq_t cT cT)
    simp only [mArgs, f__law_late_right_c1, f__law_late_right_c2]
    rw [c1]
    simp only [R.bind_ok]
    rw [c2]
    rfl
/-! ### _law_more_right -/
theorem sl_row_to (s : Sto) (r : List Int) (w : Nat) : gSl01 s [rowD r, .int (w : Nat)] = some (rowD (r.take w)) := by
  have : gSl01 s [rowD r, .int (w : Nat)] = some (.tup (cutD (r.map D.int) none (some (w : Int)))) := rfl
  rw [this, cut_to, rowD, List.map_take]
theorem sl_row_from (s : Sto) (r : List Int) (w : Nat) : gSl10 s [rowD r, .int (w : Nat)] = some (rowD (r.drop w)) := by
  have : gSl10 s [rowD r, .int (w : Nat)] = some (.tup (cutD (r.map D.int) (some (w : Int)) none)) := rfl
  rw [this, cut_from, rowD, List.map_drop]
theorem sl_hall_to (s : Sto) (h : List (List Int)) (w : Nat) : gSl01 s [hallD h, .int (w : Nat)] = some (hallD (h.take w)) := by
  have : gSl01 s [hallD h, .int (w : Nat)] = some (.tup (cutD (h.map rowD) none (some (w : Int)))) := rfl
  rw [this, cut_to, hallD, List.map_take]
theorem sl_hall_from (s : Sto) (h : List (List Int)) (w : Nat) : gSl10 s [hallD h, .int (w : Nat)] = some (hallD (h.drop w)) := by
  have : gSl10 s [hallD h, .int (w : Nat)] = some (.tup (cutD (h.map rowD) (some (w : Int)) none)) := rfl
  rw [this, cut_from, hallD, List.map_drop]
theorem sl_lol_to (s : Sto) (o o' : Bool) (h : List (List Int)) (w : Nat) : gSl01 s [lolD o o' h, .int (w : Nat)] = some (lolD true o' (h.take w)) := by
  have : gSl01 s [lolD o o' h, .int (w : Nat)] = some (.lst true (cutD (h.map fun r => .lst o' (r.map D.int)) none (some (w : Int)))) := rfl
  rw [this, cut_to, lolD, List.map_take]
theorem add_row (s : Sto) (a b : List Int) (h : a.length + b.length ≤ 1000000) : gAdd s [rowD a, rowD b] = some (rowD (a ++ b)) := by
  have : a.length + b.length ≤ sizeLine := szb h
  simp [rowD, this]
theorem add_hall (s : Sto) (a b : List (List Int)) (h : a.length + b.length ≤ 1000000) : gAdd s [hallD a, hallD b] = some (hallD (a ++ b)) := by
  have : a.length + b.length ≤ sizeLine := szb h
  simp [hallD, this]
theorem ix_hall (s : Sto) (h : List (List Int)) (k : Nat) (r : List Int) (e : h[k]? = some r) : gIx s [hallD h, .int (k : Nat)] = some (rowD r) := by
  have : gIx s [hallD h, .int (k : Nat)] = L2.atI (h.map rowD) (k : Int) := rfl
  rw [this, atI_nat, List.getElem?_map, e]; rfl
theorem ix_row (s : Sto) (r : List Int) (k : Nat) (x : Int) (e : r[k]? = some x) : gIx s [rowD r, .int (k : Nat)] = some (.int x) := by
  have : gIx s [rowD r, .int (k : Nat)] = L2.atI (r.map D.int) (k : Int) := rfl
  rw [this, atI_nat, List.getElem?_map, e]; rfl
theorem ix_lol (s : Sto) (o o' : Bool) (h : List (List Int)) (k : Nat) (r : List Int) (e : h[k]? = some r) : gIx s [lolD o o' h, .int (k : Nat)] = some (.lst o' (r.map D.int)) := by
  have : gIx s [lolD o o' h, .int (k : Nat)] = L2.atI (h.map fun r => .lst o' (r.map D.int)) (k : Int) := rfl
  rw [this, atI_nat, List.getElem?_map, e]; rfl
theorem ix_ints (s : Sto) (o : Bool) (r : List Int) (k : Nat) (x : Int) (e : r[k]? = some x) : gIx s [.lst o (r.map D.int), .int (k : Nat)] = some (.int x) := by
  rw [gIx_l, atI_nat, List.getElem?_map, e]; rfl
theorem inTo_len {m : Nat} : ∀ {h : List (List Int)} {t : List Int}, (∀ r ∈ h, r.length = m) → t.length = m → (inTo h t).length = m
  | [], _, _, ht => ht
  | r :: h, t, hr, ht => inTo_len (h := h) (t := leftAt r t) (fun r' h' => hr r' (by simp [h'])) (by
    have h1 := hr r (by simp)
    have := leftFrom_len r t 0 (by omega)
    show (leftFrom 0 r t).length = m
    omega)
theorem split_at {α : Type} {l : List α} {k : Nat} (h : k < l.length) : ∃ a x b, l = a ++ x :: b ∧ a.length = k := ⟨l.take k, l[k], l.drop (k + 1), by rw [List.getElem_cons_drop, List.take_append_drop], by rw [List.length_take]; omega⟩
theorem get_mid {α : Type} (a b : List α) (x : α) : (a ++ x :: b)[a.length]? = some x := by simp
theorem more_walk {n : Nat} {s s1 s2 s3 s4 : Sto} {HD HD' HP HQ HW HPW RW RW' RP RX RPX RQ T0 TD A B A' B' OV rA rB CT CU : D} {tot m d w r1 wd mo more x y y' a b : Int} (hT : fz T0 = TD) (hTT : fz TD = TD) (hH : fz HD = HD) (hR : fz RW = RW) (nR : noF RW = true) (hR' : fz RW' = RW') (nR' : noF RW' = true)
    (gh : gLen s [HD] = some (.int tot)) (e1 : f__law_dip [.box n, .int tot] s = .ok (.int d) s1) (gl : gLen s1 [TD] = some (.int m)) (e2 : f__law_dip [.box n, .int m] s1 = .ok (.int w) s2)
    (e3 : f__law_dip [.box n, .int 2] s2 = .ok (.int r1) s3) (e4 : gIx s3 [.lst true [.int 5, .int 100000000000], .int r1] = some (.int wd)) (e5 : f__law_dip [.box n, .int wd] s3 = .ok (.int mo) s4) (hmo : 1 + mo = more)
    (i1 : gIx s4 [HD, .int d] = some RW) (k1 : gSl01 s4 [RW, .int w] = some RP) (i2 : gIx s4 [RW, .int w] = some (.int x)) (t1 : Zm.gTup s4 [.int (x + more)] = some RX) (d1 : gAdd s4 [RP, RX] = some RPX) (k2 : gSl10 s4 [RW, .int (w + 1)] = some RQ) (d2 : gAdd s4 [RPX, RQ] = some RW')
    (k3 : gSl01 s4 [HD, .int d] = some HP) (t2 : Zm.gTup s4 [RW'] = some HW) (d3 : gAdd s4 [HP, HW] = some HPW) (k4 : gSl10 s4 [HD, .int (d + 1)] = some HQ) (d4 : gAdd s4 [HPW, HQ] = some HD')
    (L1 : f_leavings [HD, TD] s4 = .ok A s4) (L2 : f_leavings [HD', TD] s4 = .ok B s4) (nA : noF A = false) (hA : fz A = A') (hA' : fz A' = A') (hB : fz B = B') (hB' : fz B' = B')
    (o1 : f__law_over [A', B'] s4 = .ok OV s4) (nO : noF OV = true) (g1 : gMinA s4 [fz OV] = some (.int a)) (g2 : gMaxA s4 [fz OV] = some (.int b)) (h1 : 0 ≤ a) (h2 : b ≤ more)
    (i3 : gIx s4 [A', .int d] = some rA) (i4 : gIx s4 [B', .int d] = some rB) (i5 : gIx s4 [rA, .int w] = some (.int y)) (i6 : gIx s4 [rB, .int w] = some (.int y')) (hy : y' - y = more)
    (c1 : gSl01 s4 [A', .int d] = some CT) (c2 : gSl01 s4 [B', .int d] = some CU) (c3 : gEq s4 [CT, CU] = some (.bl true))
    (fin : mOp gEq [f__law_more_right_c1, f__law_more_right_c2] [some (.box n), some HD, some TD, some (.int d), some (.int w), some (.int more), some RW, some RW', some A', some B', some OV, none] s4 = .ok (.bl true) s4) :
    f__law_more_right [.box n, HD, T0] s = .ok (.bl true) s4 := by
  have gt : ∀ a b : Int, Zm.gTup s2 [.int a, .int b] = some (.tup [.int a, .int b]) := fun _ _ => gTup_ok (by simp)
  have sum1 : ∀ a b : Int, gAdd s4 [.int a, .int b] = some (.int (a + b)) := fun _ _ => rfl
  have gc1 : gLt s4 [.int a, .int 0] = some (.bl false) := by simp; omega
  have gc2 : gGt s4 [.int b, .int more] = some (.bl false) := by simp; omega
  have gs : gSub s4 [.int y', .int y] = some (.int more) := by rw [← hy]; rfl
  have gc3 : gNe s4 [.int more, .int more] = some (.bl false) := ne_f (Cmp.int _) (Cmp.int _)
  refine mkFn_rt rfl (seq_ok (σ1 := [some (.box n), some HD, some TD, some (.int d), some (.int w), none, none, none, none, none, none, none]) (s1 := s2) ?_
    (seq_ok (setD_ok (s' := s4) (d := .int more) ?_ rfl (by simp))
    (seq_ok (setD_ok (s' := s4) (d := RW) ?_ nR (by simp))
    (seq_ok (setD_ok (s' := s4) (d := RW') ?_ nR' (by simp))
    (seq_ok (σ1 := [some (.box n), some HD, some TD, some (.int d), some (.int w), some (.int more), some RW, some RW', some A', some B', none, none]) (s1 := s4) ?_
    (seq_ok (setD_ok (s' := s4) (d := OV) (by simp [hA', hB', o1]) nO (by simp))
    (seq_ok (σ1 := [some (.box n), some HD, some TD, some (.int d), some (.int w), some (.int more), some RW, some RW', some A', some B', some OV, none]) (s1 := s4) ?_
    (ret_ok ?_))))))))
  · simp [mUnp, -gLen, hT, hTT, hH, gl, gh, e1, e2, gt, Tg.bind]
  · simp [gLst_ok, p10, e3, e4, e5, hmo]
  · simp [hH, i1]
  · simp [-gAdd, hR, k1, k2, i2, d1, d2, t1, sum1]
  · show mPar2 _ 8 9 _ _ _ = _
    simp [mPar2, -gAdd, hH, hTT, hR', k3, k4, d3, d4, t2, sum1, L1, L2, nA, hA, hB]
  · refine if_f (s' := s4) ?_ rfl
    simp [-gLt, -gGt, -gSub, g1, g2, gc1, gc2, gs, gc3, i3, i4, i5, i6, hA', hB']
  · show mAnd _ _ _ _ = _
    have : mOp gEq [mOp gSl01 [mVar 8, mVar 3], mOp gSl01 [mVar 9, mVar 3]] [some (.box n), some HD, some TD, some (.int d), some (.int w), some (.int more), some RW, some RW', some A', some B', some OV, none] s4 = .ok (.bl true) s4 := by simp [hA', hB', c1, c2, c3]
    simp only [mAnd]
    rw [this, Zm.R.bind_ok]
    exact fin
theorem more_ok {s : Sto} {n C m : Nat} {h : List (List Int)} {t : List Int} (hw : Well s n C) (hC : C + 10 < 2 ^ 100) (H : HallOK h m) (Ht : DayOK t m) (o : Bool) :
    ∃ s', f__law_more_right [.box n, hallD h, .lst o (t.map D.int)] s = .ok (.bl true) s' ∧ Well s' n (C + 10) := by
  have hm1 := H.m1
  have hm8 := H.m8
  have hl1 := H.l1
  have hl8 := H.l8
  have tl := Ht.len
  obtain ⟨desk, s1, e1, p1, q1, w1⟩ := dip_ok hw (by omega) (show (0 : Int) < (h.length : Int) by omega) (by omega)
  obtain ⟨who, s2, e2, p2, q2, w2⟩ := dip_ok w1 (by omega) (show (0 : Int) < (m : Int) by omega) (by omega)
  obtain ⟨mo, r1, s3, s4, wd, e3, e4, e5, p5, q5, w4⟩ := dip_wide w2 (by omega)
  obtain ⟨d, rfl⟩ : ∃ w : Nat, desk = (w : Int) := ⟨desk.toNat, by omega⟩
  obtain ⟨w, rfl⟩ : ∃ w : Nat, who = (w : Int) := ⟨who.toNat, by omega⟩
  obtain ⟨pre, row, post, rfl, hd⟩ := split_at (l := h) (k := d) (by omega)
  subst hd
  have hrow := H.row row (by simp)
  obtain ⟨rp, x, rq, rfl, hw'⟩ := split_at (l := row) (k := w) (by omega)
  subst hw'
  obtain ⟨more, hmo⟩ : ∃ more, 1 + mo = more := ⟨_, rfl⟩
  have hx : 0 ≤ x := hrow.2 x (by simp)
  have rl := hrow.1
  simp only [List.length_append, List.length_cons] at rl hl8
  let row' := rp ++ (x + more) :: rq
  have H' : HallOK (pre ++ row' :: post) m := by
    refine ⟨by simp; omega, by simp; omega, hm1, hm8, fun r hr => ?_⟩
    rcases List.mem_append.mp hr with z | z
    · exact H.row r (by simp [z])
    · rcases List.mem_cons.mp z with rfl | z
      · refine ⟨by simp [row']; omega, fun y hy => ?_⟩
        rcases List.mem_append.mp hy with u | u
        · exact hrow.2 y (by simp [u])
        · rcases List.mem_cons.mp u with rfl | u
          · omega
          · exact hrow.2 y (by simp [u])
      · exact H.row r (by simp [z])
  have iT : (inTo pre t).length = m := inTo_len (fun r hr => (H.row r (by simp [hr])).1) tl
  obtain ⟨bt, y, y1, y2⟩ := left_more rp rq (inTo pre t) x more 0 (by omega) (by omega) (by omega)
  have A : leavFrom (pre ++ (rp ++ x :: rq) :: post) t = leavFrom pre t ++ leftAt (rp ++ x :: rq) (inTo pre t) :: leavFrom post (leftAt (rp ++ x :: rq) (inTo pre t)) := leav_append _ _ _
  have B : leavFrom (pre ++ row' :: post) t = leavFrom pre t ++ leftAt row' (inTo pre t) :: leavFrom post (leftAt row' (inTo pre t)) := leav_append _ _ _
  have bl : BtwL more (leavFrom (pre ++ (rp ++ x :: rq) :: post) t) (leavFrom (pre ++ row' :: post) t) := by
    rw [A, B]
    exact (BtwL.refl (by omega) _).append (.cons bt (BtwL.leav (by omega) post bt))
  have pl : (leavFrom pre t).length = pre.length := leavFrom_len pre t
  have a1 : (leavFrom (pre ++ (rp ++ x :: rq) :: post) t)[pre.length]? = some (leftAt (rp ++ x :: rq) (inTo pre t)) := by rw [A, ← pl]; exact get_mid _ _ _
  have b1 : (leavFrom (pre ++ row' :: post) t)[pre.length]? = some (leftAt row' (inTo pre t)) := by rw [B, ← pl]; exact get_mid _ _ _
  have tk : (leavFrom (pre ++ (rp ++ x :: rq) :: post) t).take pre.length = (leavFrom (pre ++ row' :: post) t).take pre.length := by rw [leav_rows, leav_rows]; simp
  have tw : (leavFrom (pre ++ (rp ++ x :: rq) :: post) t).map (·.take rp.length) = (leavFrom (pre ++ row' :: post) t).map (·.take rp.length) := by rw [leav_take, leav_take]; simp [row']
  have ho := over_ne bl (leav_ne H t) hm1 (leav_in (fun r hr => (H.row r hr).1) tl)
  have L1 := leav_ok H Ht false s4
  have L2 := leav_ok H' Ht false s4
  have hL : (leavFrom (pre ++ (rp ++ x :: rq) :: post) t).length ≤ 8 := by rw [leavFrom_len]; exact H.l8
  have hL2 : (leavFrom (pre ++ row' :: post) t).length ≤ 8 := by rw [leavFrom_len]; exact H'.l8
  have ov := over_ok (as := leavFrom (pre ++ (rp ++ x :: rq) :: post) t) (bs := leavFrom (pre ++ row' :: post) t) false false false false s4 hL (fun r hr => by have := leav_in (fun r hr => (H.row r hr).1) tl r hr; omega)
  obtain ⟨a, b, g1, g2, g3, g4⟩ := over_tests (s := s4) (o := false) ho bl.over
  have i1 := ix_hall s4 (pre ++ (rp ++ x :: rq) :: post) pre.length (rp ++ x :: rq) (get_mid _ _ _)
  have i2 := ix_row s4 (rp ++ x :: rq) rp.length x (get_mid _ _ _)
  have i3 := ix_lol s4 false false _ pre.length _ a1
  have i4 := ix_lol s4 false false _ pre.length _ b1
  have i5 := ix_ints s4 false _ rp.length _ y1
  have i6 := ix_ints s4 false _ rp.length _ y2
  have k1 := sl_row_to s4 (rp ++ x :: rq) rp.length
  have k2 := sl_row_from s4 (rp ++ x :: rq) (rp.length + 1)
  have k3 := sl_hall_to s4 (pre ++ (rp ++ x :: rq) :: post) pre.length
  have k4 := sl_hall_from s4 (pre ++ (rp ++ x :: rq) :: post) (pre.length + 1)
  have f1 : (rp ++ x :: rq).take rp.length = rp := by simp
  have f2 : (rp ++ x :: rq).drop (rp.length + 1) = rq := by simp
  have f3 : (pre ++ (rp ++ x :: rq) :: post).take pre.length = pre := by simp
  have f4 : (pre ++ (rp ++ x :: rq) :: post).drop (pre.length + 1) = post := by simp
  rw [f1] at k1; rw [f2] at k2; rw [f3] at k3; rw [f4] at k4
  refine ⟨s4, ?_, w4.mono (by omega)⟩
  have n1 : ∀ r, noF (rowD r) = true := fun r => by simp [rowD]
  have gl : ∀ s, gLen s [.lst false (t.map D.int)] = some (.int (m : Nat)) := fun s => by simp [tl]
  have gh : ∀ s, gLen s [hallD (pre ++ (rp ++ x :: rq) :: post)] = some (.int (((pre ++ (rp ++ x :: rq) :: post).length : Nat) : Int)) := fun s => by simp [hallD]
  have add1 : gAdd s4 [rowD rp, rowD [x + more]] = some (rowD (rp ++ [x + more])) := add_row s4 _ _ (by simp; omega)
  have add2 : gAdd s4 [rowD (rp ++ [x + more]), rowD rq] = some (rowD row') := by
    rw [add_row s4 _ _ (by simp; omega)]; simp [row']
  have add3 : gAdd s4 [hallD pre, hallD [row']] = some (hallD (pre ++ [row'])) := add_hall s4 _ _ (by simp; omega)
  have add4 : gAdd s4 [hallD (pre ++ [row']), hallD post] = some (hallD (pre ++ row' :: post)) := by
    rw [add_hall s4 _ _ (by simp; omega)]; simp
  have gt1 : ∀ z : Int, Zm.gTup s4 [.int z] = some (rowD [z]) := fun z => gTup_ok (by simp)
  have gt2 : Zm.gTup s4 [rowD row'] = some (hallD [row']) := gTup_ok (by simp)
  have sum1 : ∀ a b : Int, gAdd s4 [.int a, .int b] = some (.int (a + b)) := fun _ _ => rfl
  have suc : ∀ k : Nat, (k : Int) + 1 = ((k + 1 : Nat) : Int) := fun k => rfl
  obtain ⟨AA, hAA⟩ : ∃ l, leavFrom (pre ++ (rp ++ x :: rq) :: post) t = l := ⟨_, rfl⟩
  obtain ⟨BB, hBB⟩ : ∃ l, leavFrom (pre ++ row' :: post) t = l := ⟨_, rfl⟩
  have nA := noF_lolF (leav_ne H t) true
  rw [hAA] at L1 i3 ov g1 g2 nA tk tw hL
  rw [hBB] at L2 i4 ov g1 g2 tk tw hL2
  have ct := comp_take (nm := 8) [some (.box n), some (hallD (pre ++ (rp ++ x :: rq) :: post)), some (.lst false (t.map D.int)), some (.int (pre.length : Nat)), some (.int (rp.length : Nat)), some (.int more), some (rowD (rp ++ x :: rq)), some (rowD row'), some (lolD false false AA), some (lolD false false BB), some (.lst true ((overL AA BB).map D.int)), none] s4 false false AA rp.length 4 11 (by simp) rfl (by decide) rfl (Nat.le_trans hL (by decide))
  have cu := comp_take (nm := 9) [some (.box n), some (hallD (pre ++ (rp ++ x :: rq) :: post)), some (.lst false (t.map D.int)), some (.int (pre.length : Nat)), some (.int (rp.length : Nat)), some (.int more), some (rowD (rp ++ x :: rq)), some (rowD row'), some (lolD false false AA), some (lolD false false BB), some (.lst true ((overL AA BB).map D.int)), none] s4 false false BB rp.length 4 11 (by simp) rfl (by decide) rfl (Nat.le_trans hL2 (by decide))
  rw [tw] at ct
  have cT : Cmp (lolD true true (BB.map fun r : List Int => r.take rp.length)) _ := Cmp.lol true true (BB.map fun r : List Int => r.take rp.length)
  have cD : Cmp (lolD true false (BB.take pre.length)) _ := Cmp.lol true false (BB.take pre.length)
  refine more_walk (HD' := hallD (pre ++ row' :: post)) (HP := hallD pre) (HQ := hallD post) (HW := hallD [row']) (HPW := hallD (pre ++ [row'])) (RW := rowD (rp ++ x :: rq)) (RW' := rowD row') (RP := rowD rp) (RX := rowD [x + more]) (RPX := rowD (rp ++ [x + more])) (RQ := rowD rq) (TD := .lst false (t.map D.int)) (A := lolD true false AA) (B := lolD true false BB) (A' := lolD false false AA) (B' := lolD false false BB) (OV := .lst true ((overL AA BB).map D.int))
    (by simp) (by simp) (by simp) (by simp) (n1 _) (by simp) (n1 _) (gh s) e1 (gl s1) e2 e3 e4 e5 hmo i1 k1 i2 (gt1 _) add1 k2 add2 k3 gt2 add3 k4 add4 L1 L2 nA (by simp) (by simp) (by simp) (by simp) ov (by simp) (by simpa using g1) (by simpa using g2) g3 g4 i3 i4 i5 i6 (by omega)
    (sl_lol_to s4 false false AA pre.length) (sl_lol_to s4 false false BB pre.length) (by rw [tk]; exact eq_t cD cD) ?_
  refine op_ok (ds := [lolD true true (BB.map fun r : List Int => r.take rp.length), lolD true true (BB.map fun r : List Int => r.take rp.length)]) (s' := s4) ?_ (eq_t cT cT)
  simp only [mArgs, f__law_more_right_c1, f__law_more_right_c2]
  rw [ct]
  simp only [R.bind_ok]
  rw [cu]
  rfl
end Zm
set_option linter.all false
set_option autoImplicit false
set_option maxRecDepth 100000
namespace Zm
open PySem
theorem wipe1_get {σ : Env} {x v : Nat} (hne : v ≠ x) : (wipeE (fzE σ) [x])[v]? = (σ[v]?).map (·.map fz) := by
  show ((fzE σ).set x none)[v]? = _
  rw [List.getElem?_set_ne (fun z => hne z.symm)]
  simp
theorem wipe1_len {σ : Env} {x : Nat} : (wipeE (fzE σ) [x]).length = σ.length := by simp
theorem bind_nm {x : Nat} {d : D} {σ : Env} (h : x < σ.length) : Tg.bind (.nm x) d σ = some (σ.set x (some d)) := by unfold Tg.bind; rw [if_pos h]
theorem comp_add {nm x v : Nat} (σ : Env) (s : Sto) (o : Bool) (t : List Int) (c : Int) (hx : x < σ.length) (hv : σ[v]? = some (some (.int c))) (hne : v ≠ x) (hn : σ[nm]? = some (some (.lst o (t.map D.int)))) (hl : t.length ≤ 1000000) :
    mLc (iSeq (mVar nm)) (.nm x) [x] tTrue (mOp gAdd [mVar x, mVar v]) σ s = .ok (.lst true ((t.map (· + c)).map D.int)) s := by
  have := mLc_map (src := iSeq (mVar nm)) (tg := .nm x) (vs := [x]) (m := mOp gAdd [mVar x, mVar v]) (σ := σ) (s := s) (s' := s) (ds := t.map D.int) (fun d => match d with
    | .int y => .int (y + c)
    | d => d) (iSeq_ok (d := .lst false (t.map D.int)) (by simp [hn]) (items_ints _ _)) (by simp [Tg.within, Tg.slots]) (fun d hd => by
      obtain ⟨y, _, rfl⟩ := List.mem_map.mp hd
      refine ⟨_, bind_nm (by rw [wipe1_len]; exact hx), ?_⟩
      have e1 : ((wipeE (fzE σ) [x]).set x (some (.int y)))[x]? = some (some (.int y)) := List.getElem?_set_self (by rw [wipe1_len]; exact hx)
      have e2 : ((wipeE (fzE σ) [x]).set x (some (.int y)))[v]? = some (some (.int c)) := by rw [List.getElem?_set_ne (fun z => hne z.symm), wipe1_get hne, hv]; rfl
      simp only [mOp, mArgs, mVar, e1, e2, fz, R.bind_ok]
      rfl) (by rw [List.length_map]; exact hl)
  rw [this, List.map_map, List.map_map]
  rfl
theorem maxT_ok (s : Sto) (a b : Int) : gMaxA s [.tup [.int a, .int b]] = some (.int (max a b)) := by
  simp [gMaxA, gMaxL, intsIn, gMaxT, toInts]
def mxv : D → D
  | .tup [.int a, .int b] => .int (max a b)
  | d => d
theorem comp_max {i j x : Nat} (σ : Env) (s : Sto) (o o' : Bool) (t u : List Int) (hx : x < σ.length) (hi : σ[i]? = some (some (.lst o (t.map D.int)))) (hj : σ[j]? = some (some (.lst o' (u.map D.int)))) (hl : t.length ≤ 1000000) :
    mLc (iZip2 [mVar i, mVar j]) (.nm x) [x] tTrue (mOp gMaxA [mVar x]) σ s = .ok (.lst true ((maxs t u).map D.int)) s := by
  have := mLc_map (src := iZip2 [mVar i, mVar j]) (tg := .nm x) (vs := [x]) (m := mOp gMaxA [mVar x]) (σ := σ) (s := s) (s' := s) (ds := zip2 (t.map D.int) (u.map D.int)) mxv
    (iZip2_ok (a := .lst false (t.map D.int)) (b := .lst false (u.map D.int)) (by simp [hi, hj]) (items_ints _ _) (items_ints _ _)) (by simp [Tg.within, Tg.slots]) (fun d hd => by
      rw [zip2_map] at hd
      obtain ⟨⟨y, z⟩, _, rfl⟩ := List.mem_map.mp hd
      refine ⟨_, bind_nm (by rw [wipe1_len]; exact hx), ?_⟩
      have e1 : ((wipeE (fzE σ) [x]).set x (some (.tup [.int y, .int z])))[x]? = some (some (.tup [.int y, .int z])) := List.getElem?_set_self (by rw [wipe1_len]; exact hx)
      simp only [mOp, mArgs, mVar, e1, fz, fzs, R.bind_ok, maxT_ok, R.of_some, mxv]) (by rw [zip2_map]; simp; omega)
  rw [this, zip2_map, List.map_map, maxs, List.zip_eq_zipWith, List.map_zipWith, List.map_zipWith]
  rfl
def addv (c : Int) : D → D
  | .lst _ xs => .lst true (xs.map fun d => match d with
    | .int y => .int (y + c)
    | d => d)
  | d => d
theorem c7_ok (σ : Env) (s : Sto) (o o' : Bool) (L : List (List Int)) (c : Int) (h20 : 20 < σ.length) (hv : σ[10]? = some (some (.int c))) (hn : σ[8]? = some (some (lolD o o' L))) (hl : L.length ≤ 1000000) (hr : ∀ r ∈ L, r.length ≤ 1000000) :
    f_law_c7 σ s = .ok (lolD true true (L.map (·.map (· + c)))) s := by
  have := mLc_map (src := iSeq (mVar 8)) (tg := .nm 13) (vs := [13]) (m := f_law_c6) (σ := σ) (s := s) (s' := s) (ds := L.map fun r => .lst false (r.map D.int)) (addv c) (iSeq_ok (d := lolD false false L) (by simp [hn]) (items_lol _ _ _)) (by simp [Tg.within, Tg.slots]) (fun d hd => by
      obtain ⟨r, hr', rfl⟩ := List.mem_map.mp hd
      refine ⟨_, bind_nm (by rw [wipe1_len]; omega), ?_⟩
      have := comp_add (nm := 13) (x := 12) (v := 10) ((wipeE (fzE σ) [13]).set 13 (some (.lst false (r.map D.int)))) s false r c (by rw [List.length_set, wipe1_len]; omega) (by rw [List.getElem?_set_ne (by decide), wipe1_get (by decide), hv]; rfl) (by decide) (List.getElem?_set_self (by rw [wipe1_len]; omega)) (hr r hr')
      refine Eq.trans this ?_
      simp [addv]) (by rw [List.length_map]; exact hl)
  refine Eq.trans this ?_
  rw [lolD, List.map_map, List.map_map]
  congr 2
  exact List.map_congr_left fun r _ => by simp [addv]
def mxl : D → D
  | .tup [.lst _ xs, .lst _ ys] => .lst true (List.zipWith (fun a b => mxv (.tup [a, b])) xs ys)
  | d => d
theorem mxl_ok (o o' : Bool) (t u : List Int) : mxl (.tup [.lst o (t.map D.int), .lst o' (u.map D.int)]) = .lst true ((maxs t u).map D.int) := by
  simp only [mxl, maxs, List.map_zipWith, List.zipWith_map]
  rfl
theorem c4_ok (σ : Env) (s : Sto) (o o' p p' : Bool) (L N : List (List Int)) (h20 : 20 < σ.length) (hn : σ[8]? = some (some (lolD o o' L))) (hm : σ[9]? = some (some (lolD p p' N))) (hl : L.length ≤ 1000000) (hr : ∀ r ∈ L, r.length ≤ 1000000) :
    f_law_c4 σ s = .ok (lolD true true (List.zipWith maxs L N)) s := by
  have := mLc_map (src := iZip2 [mVar 8, mVar 9]) (tg := .t2 (.nm 17) (.nm 18)) (vs := [17, 18]) (m := f_law_c3) (σ := σ) (s := s) (s' := s) (ds := zip2 (L.map fun r => .lst false (r.map D.int)) (N.map fun r => .lst false (r.map D.int))) mxl
    (iZip2_ok (a := lolD false false L) (b := lolD false false N) (by simp [hn, hm]) (items_lol _ _ _) (items_lol _ _ _)) rfl (fun d hd => by
      rw [zip2_map] at hd
      obtain ⟨⟨r, q⟩, hrq, rfl⟩ := List.mem_map.mp hd
      have hr' := (List.of_mem_zip hrq).1
      have hlen : (wipeE (fzE σ) [17, 18]).length = σ.length := by simp
      refine ⟨((wipeE (fzE σ) [17, 18]).set 17 (some (.lst false (r.map D.int)))).set 18 (some (.lst false (q.map D.int))), ?_, ?_⟩
      · show (Tg.bind (.nm 17) _ _).bind (fun σ1 => Tg.bind (.nm 18) _ σ1) = _
        rw [bind_nm (by rw [hlen]; omega)]
        show Tg.bind (.nm 18) _ _ = _
        rw [bind_nm (by rw [List.length_set, hlen]; omega)]
      · have := comp_max (i := 17) (j := 18) (x := 15) (((wipeE (fzE σ) [17, 18]).set 17 (some (.lst false (r.map D.int)))).set 18 (some (.lst false (q.map D.int)))) s false false r q (by rw [List.length_set, List.length_set, hlen]; omega)
          (by rw [List.getElem?_set_ne (by decide)]; exact List.getElem?_set_self (by rw [hlen]; omega)) (List.getElem?_set_self (by rw [List.length_set, hlen]; omega)) (hr r hr')
        refine Eq.trans this ?_
        rw [mxl_ok]) (by rw [zip2_map]; simp; omega)
  refine Eq.trans this ?_
  rw [zip2_map, List.map_map, lolD, List.zip_eq_zipWith, List.map_zipWith, List.map_zipWith]
  exact congrArg (fun f => R.ok (D.lst true (List.zipWith f L N)) s) (funext fun r => funext fun q => mxl_ok _ _ _ _)
theorem lc_none {tg : Tg} {t : T} {m : M} {σ : Env} {s : Sto} : ∀ (ds acc : List D), (∀ d ∈ ds, ∃ σ1, tg.bind d σ = some σ1 ∧ t σ1 s = .ok false s) → lcR tg t m σ ds acc s = .ok (.lst true acc) s
  | [], acc, _ => by simp [lcR]
  | d :: ds, acc, h => by
    obtain ⟨σ1, e1, e2⟩ := h d (by simp)
    unfold lcR
    simp only [e1, e2]
    exact lc_none ds acc fun d hd => h d (by simp [hd])
theorem gaps {m : Nat} : ∀ {h : List (List Int)} {t : List Int}, (∀ r ∈ h, r.length = m) → t.length = m → ∀ p ∈ h.zip (leavFrom h t), p.1.length = m ∧ ∃ T, T.length = m ∧ p.2 = leftFrom 0 p.1 T
  | [], _, _, _, p, hp => by simp at hp
  | r :: h, t, hr, ht, p, hp => by
    have h0 := hr r (by simp)
    simp only [leavFrom, List.zip_cons_cons, List.mem_cons] at hp
    rcases hp with rfl | hp
    · exact ⟨h0, t, ht, rfl⟩
    · exact gaps (h := h) (t := leftAt r t) (fun r' h' => hr r' (by simp [h'])) (by
        have := leftFrom_len r t 0 (by omega)
        show (leftFrom 0 r t).length = m
        omega) p hp
theorem iR2_ok {ms : List M} {σ : Env} {s s' : Sto} {i j : Int} (h : mArgs ms σ s = .ok [.int i, .int j] s') (h1 : -(2 ^ 62) ≤ i) (h2 : i < 2 ^ 62) (h3 : -(2 ^ 62) ≤ j) (h4 : j < 2 ^ 62) : iR2 ms σ s = .ok (rng i j 1 (j - i).toNat) s' := by
  have hb : big i = true := decide_eq_true ⟨h1, h2⟩
  have hc : big j = true := decide_eq_true ⟨h3, h4⟩
  simp only [iR2, h, R.bind_ok]
  rw [if_pos ⟨hb, hc⟩]
theorem c1_ok (σ : Env) (s : Sto) (r T : List Int) (o : Bool) (m : Nat) (h20 : 20 < σ.length) (hm : σ[5]? = some (some (.int (m : Nat)))) (h13 : σ[13]? = some (some (rowD r))) (h19 : σ[19]? = some (some (.lst o ((leftFrom 0 r T).map D.int)))) (hr : r.length = m) (hT : T.length = m) (hm8 : m ≤ 8) :
    f_law_c1 σ s = .ok (.lst true []) s := by
  have src : iR2 [mC (.int 1), mVar 5] σ s = .ok (rng 1 (m : Int) 1 ((m : Int) - 1).toNat) s := by
    exact iR2_ok (by simp only [mArgs, mC, mVar, hm, fz, R.bind_ok]) (by omega) (by omega) (by omega) (by omega)
  have hl := leftFrom_len r T 0 (by omega)
  have hw : (Tg.nm 20).within [20] = true := rfl
  simp only [f_law_c1, mLc, src, R.bind_ok]
  rw [if_pos hw]
  refine lc_none _ _ fun d hd => ?_
  obtain ⟨i, hi, rfl⟩ := List.getElem_of_mem hd
  rw [rng_length] at hi
  rw [rng_get]
  refine ⟨_, bind_nm (by rw [wipe1_len]; exact h20), ?_⟩
  have hi' : i + 1 < m := by omega
  obtain ⟨E, hE⟩ : ∃ E, (wipeE (fzE σ) [20]).set 20 (some (.int (1 + (i : Nat) * 1))) = E := ⟨_, rfl⟩
  have e20 : E[20]? = some (some (.int (1 + (i : Nat) * 1))) := by rw [← hE]; exact List.getElem?_set_self (by rw [wipe1_len]; exact h20)
  have e13 : E[13]? = some (some (rowD r)) := by rw [← hE, List.getElem?_set_ne (by decide), wipe1_get (by decide), h13]; simp
  have e19 : E[19]? = some (some (.lst false ((leftFrom 0 r T).map D.int))) := by rw [← hE, List.getElem?_set_ne (by decide), wipe1_get (by decide), h19]; simp
  obtain ⟨a, ha⟩ : ∃ a, (leftFrom 0 r T)[i]? = some a := ⟨_, List.getElem?_eq_getElem (by omega)⟩
  obtain ⟨b, hb⟩ : ∃ b, (leftFrom 0 r T)[i + 1]? = some b := ⟨_, List.getElem?_eq_getElem (by omega)⟩
  obtain ⟨mm, hmm, hle⟩ := left_gap r T 0 (i + 1) a b (by simpa using ha) hb
  have q1 : (1 + (i : Nat) * 1 : Int) = ((i + 1 : Nat) : Int) := by omega
  have q2 : ((i + 1 : Nat) : Int) - 1 = (i : Nat) := by omega
  have g1 := ix_ints s false _ (i + 1) b hb
  have g2 := ix_ints s false _ i a ha
  have g3 := ix_row s r (i + 1) mm hmm
  have gs : ∀ x y : Int, gSub s [.int x, .int y] = some (.int (x - y)) := fun _ _ => rfl
  have gc : gLt s [.int (b - a), .int mm] = some (.bl false) := by simp; omega
  rw [hE]
  rw [q1] at e20
  simp only [tV, mOp, mArgs, mVar, mC, e20, e13, e19, fz, fz_row, fz_ints, R.bind_ok, R.of_some, g1, gs, q2, g2, g3, gc]
theorem turn_walk {n : Nat} {s s1 s2 s3 s4 s5 s6 : Sto} {HD R0 T0 U0 T U A B A' B' MD MD' A3 A4 W1 W2 BO BO' DU DU' A5 LA LB : D} {I1 I2 : List D} {m sh : Int} (y0 y1 y3 y4 y5 y6 y7 y8 y9 y10 y11 y12 y13 y14 y15 y16 y17 y18 y19 y20 : Option D)
    (q0 : f__law_hall [.box n, .int 8, .int 8, .int 100000000000] s = .ok HD s1) (hH : fz HD = HD) (nH : noF HD = true) (q1 : gIx s1 [HD, .int 0] = some R0) (q2 : gLen s1 [R0] = some (.int m))
    (q3 : f__law_times [.box n, .int m, .int 10000000000] s1 = .ok T0 s2) (q4 : f__law_times [.box n, .int m, .int 10000000000] s2 = .ok U0 s3) (nT : noF T0 = true) (nU : noF U0 = true) (hT : fz T0 = T) (hTT : fz T = T) (hU : fz U0 = U) (hUU : fz U = U)
    (l1 : f_leavings [HD, T] s3 = .ok A s3) (l2 : f_leavings [HD, U] s3 = .ok B s3) (nA : noF A = false) (hA : fz A = A') (hAA : fz A' = A') (hB : fz B = B') (hBB : fz B' = B')
    (q5 : f__law_dip [.box n, .int 100000000000] s3 = .ok (.int sh) s4)
    (c8 : f_law_c8 [y0, y1, some (.box n), y3, some HD, some (.int m), some T, some U, some A', some B', some (.int sh), y11, y12, y13, y14, y15, y16, y17, y18, y19, y20] s4 = .ok MD s4) (nM : noF MD = true) (hM : fz MD = MD')
    (l3 : f_leavings [HD, MD'] s4 = .ok A3 s4) (c7 : f_law_c7 [y0, y1, some (.box n), y3, some HD, some (.int m), some T, some U, some A', some B', some (.int sh), some MD, y12, y13, y14, y15, y16, y17, y18, y19, y20] s4 = .ok A4 s4) (n7 : gNe s4 [A3, A4] = some (.bl false))
    (w1 : f_waits [HD, MD'] s4 = .ok W1 s4) (w2 : f_waits [HD, T] s4 = .ok W2 s4) (n8 : gNe s4 [W1, W2] = some (.bl false))
    (c5 : f_law_c5 [y0, y1, some (.box n), y3, some HD, some (.int m), some T, some U, some A', some B', some (.int sh), some MD, y12, y13, y14, y15, y16, y17, y18, y19, y20] s4 = .ok BO s4) (nB : noF BO = true) (hO : fz BO = BO')
    (c4 : f_law_c4 [y0, y1, some (.box n), y3, some HD, some (.int m), some T, some U, some A', some B', some (.int sh), some MD, y12, y13, some BO, y15, y16, y17, y18, y19, y20] s4 = .ok DU s4) (nD : noF DU = true) (hD : fz DU = DU')
    (l4 : f_leavings [HD, BO'] s4 = .ok A5 s4) (n11 : gNe s4 [A5, DU'] = some (.bl false)) (la : f_last [HD, BO'] s4 = .ok LA s4) (ix : gIx s4 [DU', .int (-1)] = some LB) (n12 : gNe s4 [LA, LB] = some (.bl false))
    (i1 : itemsOf HD = some I1) (i2 : itemsOf A' = some I2)
    (lp : ∃ z13 z19, forR (.t2 (.nm 13) (.nm 19)) f_law_b2 (zip2 I1 I2) [y0, y1, some (.box n), y3, some HD, some (.int m), some T, some U, some A', some B', some (.int sh), some MD, y12, y13, some BO, y15, some DU, y17, y18, y19, y20] s4 = .nx [y0, y1, some (.box n), y3, some HD, some (.int m), some T, some U, some A', some B', some (.int sh), some MD, y12, z13, some BO, y15, some DU, y17, y18, z19, y20] s4)
    (la5 : f__law_late_right [.box n, HD, T] s4 = .ok (.bl true) s5) (mo6 : f__law_more_right [.box n, HD, T] s5 = .ok (.bl true) s6) :
    ∃ z4 z5 z6 z7 z8 z9 z10 z11 z12 z13 z14 z15 z16 z17 z18 z19 z20, f_law_b9 [y0, y1, some (.box n), y3, y4, y5, y6, y7, y8, y9, y10, y11, y12, y13, y14, y15, y16, y17, y18, y19, y20] s = .nx [y0, y1, some (.box n), y3, z4, z5, z6, z7, z8, z9, z10, z11, z12, z13, z14, z15, z16, z17, z18, z19, z20] s6 := by
  obtain ⟨z13, z19, lp⟩ := lp
  refine ⟨some HD, some (.int m), some T, some U, some A', some B', some (.int sh), some MD, y12, z13, some BO, y15, some DU, y17, y18, z19, y20, ?_⟩
  unfold f_law_b9
  refine seq_ok (setD_ok (s' := s1) (d := HD) (by simp [p10, q0]) nH (by simp))
    (seq_ok (setD_ok (s' := s1) (d := .int m) (by simp [-gLen, hH, q1, q2]) rfl (by simp))
    (seq_ok (σ1 := [y0, y1, some (.box n), y3, some HD, some (.int m), some T0, some U0, y8, y9, y10, y11, y12, y13, y14, y15, y16, y17, y18, y19, y20]) (s1 := s3) ?_
    (seq_ok (σ1 := [y0, y1, some (.box n), y3, some HD, some (.int m), some T, some U, some A', some B', y10, y11, y12, y13, y14, y15, y16, y17, y18, y19, y20]) (s1 := s3) ?_
    (seq_ok (setD_ok (s' := s4) (d := .int sh) (by simp [p10, q5]) rfl (by simp))
    (seq_ok (setD_ok (s' := s4) (d := MD) c8 nM (by simp))
    (seq_ok (σ1 := [y0, y1, some (.box n), y3, some HD, some (.int m), some T, some U, some A', some B', some (.int sh), some MD, y12, y13, y14, y15, y16, y17, y18, y19, y20]) (s1 := s4) ?_
    (seq_ok (σ1 := [y0, y1, some (.box n), y3, some HD, some (.int m), some T, some U, some A', some B', some (.int sh), some MD, y12, y13, y14, y15, y16, y17, y18, y19, y20]) (s1 := s4) ?_
    (seq_ok (setD_ok (s' := s4) (d := BO) c5 nB (by simp))
    (seq_ok (setD_ok (s' := s4) (d := DU) c4 nD (by simp))
    (seq_ok (σ1 := [y0, y1, some (.box n), y3, some HD, some (.int m), some T, some U, some A', some B', some (.int sh), some MD, y12, y13, some BO, y15, some DU, y17, y18, y19, y20]) (s1 := s4) ?_
    (seq_ok (σ1 := [y0, y1, some (.box n), y3, some HD, some (.int m), some T, some U, some A', some B', some (.int sh), some MD, y12, z13, some BO, y15, some DU, y17, y18, z19, y20]) (s1 := s4) ?_ (?_))))))))))))
  · simp [mPar2, p10, q3, q4, nT, nU]
  · simp [mPar2, l1, l2, nA, hH, hT, hU, hTT, hA, hB]
  · refine if_f (s' := s4) ?_ rfl
    have c7' := c7
    simp [hH, hM, l3, c7', n7]
  · refine if_f (s' := s4) ?_ rfl
    simp [hH, hM, hTT, w1, w2, n8]
  · refine if_f (s' := s4) ?_ rfl
    have g : gNeg s4 [.int 1] = some (.int (-1)) := rfl
    simp [-gNeg, g, hH, hO, hD, l4, n11, la, ix, n12]
  · refine (for_ok (s' := s4) (ds := zip2 I1 I2) (iZip2_ok (a := HD) (b := A') (by simp [hH, hAA]) i1 i2)).trans (Eq.trans ?_ lp)
    simp [hH, hAA]
  · refine if_f (s' := s6) ?_ rfl
    simp [hH, hTT, la5, mo6]
theorem loop_b2 {m : Nat} (hm8 : m ≤ 8) (y0 y1 y2 y3 y4 y6 y7 y8 y9 y10 y11 y12 y14 y15 y16 y17 y18 y20 : Option D) (s : Sto) : ∀ (ps : List (List Int × List Int)) (y13 y19 : Option D), (∀ p ∈ ps, p.1.length = m ∧ ∃ T, T.length = m ∧ p.2 = leftFrom 0 p.1 T) →
    ∃ z13 z19, forR (.t2 (.nm 13) (.nm 19)) f_law_b2 (ps.map fun p => .tup [rowD p.1, .lst false (p.2.map D.int)]) [y0, y1, y2, y3, y4, some (.int (m : Nat)), y6, y7, y8, y9, y10, y11, y12, y13, y14, y15, y16, y17, y18, y19, y20] s = .nx [y0, y1, y2, y3, y4, some (.int (m : Nat)), y6, y7, y8, y9, y10, y11, y12, z13, y14, y15, y16, y17, y18, z19, y20] s
  | [], y13, y19, _ => ⟨y13, y19, rfl⟩
  | p :: ps, y13, y19, h => by
    obtain ⟨hl, T, hT, e⟩ := h p (by simp)
    obtain ⟨z13, z19, e2⟩ := loop_b2 hm8 y0 y1 y2 y3 y4 y6 y7 y8 y9 y10 y11 y12 y14 y15 y16 y17 y18 y20 s ps (some (rowD p.1)) (some (.lst false (p.2.map D.int))) fun q hq => h q (by simp [hq])
    refine ⟨z13, z19, ?_⟩
    rw [List.map_cons, forR_nx (σ1 := [y0, y1, y2, y3, y4, some (.int (m : Nat)), y6, y7, y8, y9, y10, y11, y12, some (rowD p.1), y14, y15, y16, y17, y18, some (.lst false (p.2.map D.int)), y20]) (σ2 := [y0, y1, y2, y3, y4, some (.int (m : Nat)), y6, y7, y8, y9, y10, y11, y12, some (rowD p.1), y14, y15, y16, y17, y18, some (.lst false (p.2.map D.int)), y20]) (s2 := s) rfl ?_, e2]
    have c := c1_ok [y0, y1, y2, y3, y4, some (.int (m : Nat)), y6, y7, y8, y9, y10, y11, y12, some (rowD p.1), y14, y15, y16, y17, y18, some (.lst false (p.2.map D.int)), y20] s p.1 T false m (by simp) rfl rfl (by rw [← e]; rfl) hl hT hm8
    have c0 : Cmp (.lst true []) (.list []) := Cmp.ints true []
    unfold f_law_b2
    refine if_f (s' := s) ?_ rfl
    simp only [tV, mOp, mArgs, c, R.bind_ok, gLst_ok (show ([] : List D).length ≤ 1000000 by decide), R.of_some, ne_f c0 c0]
theorem shift_ok {t : List Int} {m : Nat} {c : Int} (H : DayOK t m) (hc : 0 ≤ c) : DayOK (t.map (· + c)) m := by
  refine ⟨by rw [List.length_map]; exact H.len, fun x hx => ?_, ?_⟩
  · obtain ⟨y, hy, rfl⟩ := List.mem_map.mp hx
    have := H.nn y hy
    show 0 ≤ y + c
    omega
  · rw [List.pairwise_map]
    exact H.up.imp fun h => by omega
theorem maxs_ok {t u : List Int} {m : Nat} (H : DayOK t m) (H' : DayOK u m) : DayOK (maxs t u) m := by
  have h1 := H.len
  have h2 := H'.len
  refine ⟨by unfold maxs; rw [List.length_zipWith]; omega, fun x hx => ?_, ?_⟩
  · obtain ⟨i, hi, rfl⟩ := List.getElem_of_mem hx
    unfold maxs at hi ⊢
    rw [List.length_zipWith] at hi
    rw [List.getElem_zipWith]
    have := H.nn _ (List.getElem_mem (show i < t.length by omega))
    omega
  · rw [List.pairwise_iff_getElem]
    intro i j hi hj hij
    unfold maxs at hi hj ⊢
    rw [List.length_zipWith] at hi hj
    rw [List.getElem_zipWith, List.getElem_zipWith]
    have a := List.pairwise_iff_getElem.mp H.up i j (by omega) (by omega) hij
    have b := List.pairwise_iff_getElem.mp H'.up i j (by omega) (by omega) hij
    omega
theorem turn_ok {s : Sto} {n C : Nat} (hw : Well s n C) (hC : C + 3000 < 2 ^ 100) (y0 y1 y3 y4 y5 y6 y7 y8 y9 y10 y11 y12 y13 y14 y15 y16 y17 y18 y19 y20 : Option D) :
    ∃ z4 z5 z6 z7 z8 z9 z10 z11 z12 z13 z14 z15 z16 z17 z18 z19 z20 s', f_law_b9 [y0, y1, some (.box n), y3, y4, y5, y6, y7, y8, y9, y10, y11, y12, y13, y14, y15, y16, y17, y18, y19, y20] s = .nx [y0, y1, some (.box n), y3, z4, z5, z6, z7, z8, z9, z10, z11, z12, z13, z14, z15, z16, z17, z18, z19, z20] s' ∧ Well s' n (C + 3000) := by
  obtain ⟨h, m, s1, q0, H, w1⟩ := hall_ok (a := 8) (b := 8) (w := 100000000000) hw (by omega) (by decide) (by decide) (by decide) (by decide) (by decide) (by decide)
  have hm8 := H.m8
  have hm1 := H.m1
  have hl8 := H.l8
  obtain ⟨t, s2, q3, Ht, w2⟩ := times_ok (m := m) (w := 10000000000) w1 (by omega) hm8 (by decide) (by decide)
  obtain ⟨u, s3, q4, Hu, w3⟩ := times_ok (m := m) (w := 10000000000) w2 (by omega) hm8 (by decide) (by decide)
  obtain ⟨sh, s4, q5, p5, _, w4⟩ := dip_ok (w := 100000000000) w3 (by omega) (by decide) (by decide)
  obtain ⟨s5, la, w5⟩ := late_ok w4 (by omega) H Ht false
  obtain ⟨s6, mo, w6⟩ := more_ok w5 (by omega) H Ht false
  have tl := Ht.len
  have ul := Hu.len
  obtain ⟨r0, e0⟩ : ∃ r, h.head? = some r := by
    cases h with
    | nil => have := H.l1; simp at this
    | cons x h => exact ⟨x, rfl⟩
  have g0 : gIx s1 [hallD h, .int 0] = some (rowD r0) := gIx_h e0
  have g1 : gLen s1 [rowD r0] = some (.int (m : Nat)) := by simp [rowD, (H.row r0 (List.mem_of_head? e0)).1]
  have Hs := shift_ok Ht p5
  have Hm := maxs_ok Ht Hu
  have rows : ∀ r ∈ h, r.length = m := fun r hr => (H.row r hr).1
  have LL : (leavFrom h t).length ≤ 1000000 := by rw [leavFrom_len]; omega
  have LR : ∀ r ∈ leavFrom h t, r.length ≤ 1000000 := fun r hr => by have := leav_in rows tl r hr; omega
  have es := leav_shift h t sh p5 Ht.nn fun r hr => (H.row r hr).2
  have em := leav_max h t u (by omega) fun r hr => by rw [rows r hr]; omega
  obtain ⟨l, hl, la2⟩ := last_ok H Hm false s4
  have c0 : ∀ (o o' : Bool) (L : List (List Int)), Cmp (lolD o o' L) _ := fun o o' L => Cmp.lol o o' L
  obtain ⟨z4, z5, z6, z7, z8, z9, z10, z11, z12, z13, z14, z15, z16, z17, z18, z19, z20, e⟩ := turn_walk (s5 := s5) (s6 := s6) y0 y1 y3 y4 y5 y6 y7 y8 y9 y10 y11 y12 y13 y14 y15 y16 y17 y18 y19 y20 q0 (fz_hall h) (noF_hall h) g0 g1 q3 q4 (by simp) (by simp) (T := .lst false (t.map D.int)) (by simp) (by simp) (U := .lst false (u.map D.int)) (by simp) (by simp)
    (leav_ok H Ht false s3) (leav_ok H Hu false s3) (noF_lolF (leav_ne H t) true) (A' := lolD false false (leavFrom h t)) (by simp) (by simp) (B' := lolD false false (leavFrom h u)) (by simp) (by simp) q5
    (MD := .lst true ((t.map (· + sh)).map D.int)) (comp_add (nm := 6) (x := 12) (v := 10) _ s4 false t sh (by simp) rfl (by decide) rfl (by omega)) (noF_ints _) (MD' := .lst false ((t.map (· + sh)).map D.int)) (by simp only [fz, fz_ints])
    (leav_ok H Hs false s4) (c7_ok _ s4 false false (leavFrom h t) sh (by simp) rfl rfl LL LR) (by rw [es]; exact ne_f (c0 _ _ _) (c0 _ _ _))
    (waits_ok H Hs false s4) (waits_ok H Ht false s4) (by rw [es, waits_shift]; exact ne_f (c0 _ _ _) (c0 _ _ _))
    (BO := .lst true ((maxs t u).map D.int)) (comp_max (i := 6) (j := 7) (x := 15) _ s4 false false t u (by simp) rfl rfl (by omega)) (noF_ints _) (BO' := .lst false ((maxs t u).map D.int)) (by simp only [fz, fz_ints])
    (c4_ok _ s4 false false false false (leavFrom h t) (leavFrom h u) (by simp) rfl rfl LL LR) (noF_lolT _) (DU' := lolD false false (List.zipWith maxs (leavFrom h t) (leavFrom h u))) (by simp)
    (leav_ok H Hm false s4) (by rw [em]; exact ne_f (c0 _ _ _) (c0 _ _ _)) la2 (LB := .lst false (l.map D.int)) (by
      rw [← em]
      unfold lolD
      rw [gIx_l, atI_last, List.getLast?_map, hl]; rfl) (ne_f (Cmp.ints _ _) (Cmp.ints _ _))
    (items_hall h) (items_lol _ _ _) (by
      rw [zip2_map]
      exact loop_b2 hm8 y0 y1 (some (.box n)) y3 (some (hallD h)) (some (.lst false (t.map D.int))) (some (.lst false (u.map D.int))) (some (lolD false false (leavFrom h t))) (some (lolD false false (leavFrom h u))) (some (.int sh)) _ y12 _ y15 _ y17 y18 y20 s4 (h.zip (leavFrom h t)) y13 y19 (gaps rows tl)) la mo
  exact ⟨z4, z5, z6, z7, z8, z9, z10, z11, z12, z13, z14, z15, z16, z17, z18, z19, z20, s6, e, w6.mono (by omega)⟩
theorem k_ok (ns : List Int) (k : Nat) (hk : k < 1000) (s : Sto) (y2 y3 y4 y5 y6 y7 y8 y9 y10 y11 y12 y13 y14 y15 y16 y17 y18 y19 y20 : Option D) :
    ∃ z2 z3 z4 z5 z6 z7 z8 z9 z10 z11 z12 z13 z14 z15 z16 z17 z18 z19 z20 s', f_law_b10 [some (.ro ns), some (.int (k : Nat)), y2, y3, y4, y5, y6, y7, y8, y9, y10, y11, y12, y13, y14, y15, y16, y17, y18, y19, y20] s = .nx [some (.ro ns), some (.int (k : Nat)), z2, z3, z4, z5, z6, z7, z8, z9, z10, z11, z12, z13, z14, z15, z16, z17, z18, z19, z20] s' := by
  obtain ⟨n, s1, e1, w1⟩ := well_ok (ns := ns) (k := (k : Nat)) (by omega) (by omega) s
  obtain ⟨σ', s', ef, y3, y4, y5, y6, y7, y8, y9, y10, y11, y12, y13, y14, y15, y16, y17, y18, y19, y20, rfl, hw2⟩ := for_all (tg := .nm 3) (body := f_law_b9) (ds := rng 0 3 1 3) (s := s1) (σ := [some (.ro ns), some (.int (k : Nat)), some (.box n), y3, y4, y5, y6, y7, y8, y9, y10, y11, y12, y13, y14, y15, y16, y17, y18, y19, y20])
    (fun i σ s => ∃ (y3 y4 y5 y6 y7 y8 y9 y10 y11 y12 y13 y14 y15 y16 y17 y18 y19 y20 : Option D), σ = [some (.ro ns), some (.int (k : Nat)), some (.box n), y3, y4, y5, y6, y7, y8, y9, y10, y11, y12, y13, y14, y15, y16, y17, y18, y19, y20] ∧ Well s n (3000 * i))
    ⟨y3, y4, y5, y6, y7, y8, y9, y10, y11, y12, y13, y14, y15, y16, y17, y18, y19, y20, rfl, w1⟩ (by
      rintro i hi σ s ⟨y3, y4, y5, y6, y7, y8, y9, y10, y11, y12, y13, y14, y15, y16, y17, y18, y19, y20, rfl, hw⟩
      rw [rng_length] at hi
      obtain ⟨z4, z5, z6, z7, z8, z9, z10, z11, z12, z13, z14, z15, z16, z17, z18, z19, z20, s', e, w'⟩ := turn_ok hw (by omega) (some (.ro ns)) (some (.int (k : Nat))) (some ((rng 0 3 1 3)[i])) y4 y5 y6 y7 y8 y9 y10 y11 y12 y13 y14 y15 y16 y17 y18 y19 y20
      exact ⟨_, _, s', rfl, e, _, z4, z5, z6, z7, z8, z9, z10, z11, z12, z13, z14, z15, z16, z17, z18, z19, z20, rfl, by rw [show 3000 * (i + 1) = 3000 * i + 3000 by omega]; exact w'⟩)
  refine ⟨some (.box n), y3, y4, y5, y6, y7, y8, y9, y10, y11, y12, y13, y14, y15, y16, y17, y18, y19, y20, s', ?_⟩
  unfold f_law_b10
  refine seq_ok (setD_ok (s' := s1) (d := .box n) (by simp [e1]) rfl (by simp)) ?_
  exact (forP_ok (iR1_ok (j := 3) (s' := s1) (by simp) (by omega) (by omega))).trans ef
theorem law_good : ∀ ns : List Int, ns.length ≤ 63 → ∃ s, f_law [.ro ns] [] = .ok (.bl true) s := by
  intro ns hn
  obtain ⟨j, hj, j0, j4⟩ : ∃ j : Int, (if (if (ns.length : Int) < 4 then (ns.length : Int) else 4) > 1 then (if (ns.length : Int) < 4 then (ns.length : Int) else 4) else 1) = j ∧ 0 ≤ j ∧ j ≤ 4 := by
    refine ⟨_, rfl, ?_, ?_⟩ <;> split <;> split <;> omega
  obtain ⟨σ', s', ef, y1, y2, y3, y4, y5, y6, y7, y8, y9, y10, y11, y12, y13, y14, y15, y16, y17, y18, y19, y20, rfl⟩ := for_all (tg := .nm 1) (body := f_law_b10) (ds := rng 0 j 1 j.toNat) (s := []) (σ := [some (.ro ns), none, none, none, none, none, none, none, none, none, none, none, none, none, none, none, none, none, none, none, none])
    (fun i σ s => ∃ (y1 y2 y3 y4 y5 y6 y7 y8 y9 y10 y11 y12 y13 y14 y15 y16 y17 y18 y19 y20 : Option D), σ = [some (.ro ns), y1, y2, y3, y4, y5, y6, y7, y8, y9, y10, y11, y12, y13, y14, y15, y16, y17, y18, y19, y20])
    ⟨none, none, none, none, none, none, none, none, none, none, none, none, none, none, none, none, none, none, none, none, rfl⟩ (by
      rintro i hi σ s ⟨y1, y2, y3, y4, y5, y6, y7, y8, y9, y10, y11, y12, y13, y14, y15, y16, y17, y18, y19, y20, rfl⟩
      rw [rng_length] at hi
      rw [rng0_get]
      obtain ⟨z2, z3, z4, z5, z6, z7, z8, z9, z10, z11, z12, z13, z14, z15, z16, z17, z18, z19, z20, s', e⟩ := k_ok ns i (by omega) s y2 y3 y4 y5 y6 y7 y8 y9 y10 y11 y12 y13 y14 y15 y16 y17 y18 y19 y20
      exact ⟨_, _, s', rfl, e, _, z2, z3, z4, z5, z6, z7, z8, z9, z10, z11, z12, z13, z14, z15, z16, z17, z18, z19, z20, rfl⟩)
  refine ⟨s', mkFn_rt rfl (seq_ok ((forP_ok (iR1_ok (j := j) (s' := []) ?_ (by omega) (by omega))).trans ef) (ret_ok (by simp)))⟩
  simp [-gMax2, -gMin2]
  have g : ∀ s, gMin2 s [.int 4, .int (ns.length : Nat)] = some (.int (if (ns.length : Int) < 4 then (ns.length : Int) else 4)) := fun _ => rfl
  have g2 : ∀ s (x : Int), gMax2 s [.int 1, .int x] = some (.int (if x > 1 then x else 1)) := fun _ _ => rfl
  simp only [g, g2, R.of_some, R.bind_ok, hj]
end Zm
set_option Elab.async false
set_option linter.all false
set_option maxRecDepth 100000
set_option autoImplicit false
namespace Zm
open PySem PySem.Spec PyProof.Rows L2
def kst (i : Nat) : Stmt := (PySem.Challenge.pw_movedminutes_k05_whole_later_and_togethe.main.body[i]?).getD (.Pass ⟨0, 0, 0, 0⟩)
structure Txt (K : PySem.W.Frag) (mg : Str → Option Value) : Prop where
  f__law_well : ∃ f fd, mg "_law_well" = some (.ref f) ∧ Fun K "_law_well" "_law_well" (kst 20) f fd
  f__law_dip : ∃ f fd, mg "_law_dip" = some (.ref f) ∧ Fun K "_law_dip" "_law_dip" (kst 21) f fd
  f__law_hall : ∃ f fd, mg "_law_hall" = some (.ref f) ∧ Fun K "_law_hall" "_law_hall" (kst 22) f fd
  f__law_times : ∃ f fd, mg "_law_times" = some (.ref f) ∧ Fun K "_law_times" "_law_times" (kst 23) f fd
  f_is_whole : ∃ f fd, mg "is_whole" = some (.ref f) ∧ Fun K "is_whole" "is_whole" (kst 7) f fd
  f_is_amount : ∃ f fd, mg "is_amount" = some (.ref f) ∧ Fun K "is_amount" "is_amount" (kst 8) f fd
  f_is_row : ∃ f fd, mg "is_row" = some (.ref f) ∧ Fun K "is_row" "is_row" (kst 9) f fd
  f_is_hall : ∃ f fd, mg "is_hall" = some (.ref f) ∧ Fun K "is_hall" "is_hall" (kst 10) f fd
  f_need_hall : ∃ f fd, mg "need_hall" = some (.ref f) ∧ Fun K "need_hall" "need_hall" (kst 12) f fd
  f_are_times : ∃ f fd, mg "are_times" = some (.ref f) ∧ Fun K "are_times" "are_times" (kst 11) f fd
  f_need_day : ∃ f fd, mg "need_day" = some (.ref f) ∧ Fun K "need_day" "need_day" (kst 13) f fd
  f_left_at : ∃ f fd, mg "left_at" = some (.ref f) ∧ Fun K "left_at" "left_at" (kst 14) f fd
  f_leavings_of : ∃ f fd, mg "leavings_of" = some (.ref f) ∧ Fun K "leavings_of" "leavings_of" (kst 15) f fd
  f_leavings : ∃ f fd, mg "leavings" = some (.ref f) ∧ Fun K "leavings" "leavings" (kst 16) f fd
  f_waits : ∃ f fd, mg "waits" = some (.ref f) ∧ Fun K "waits" "waits" (kst 18) f fd
  f_last : ∃ f fd, mg "last" = some (.ref f) ∧ Fun K "last" "last" (kst 17) f fd
  f__law_over : ∃ f fd, mg "_law_over" = some (.ref f) ∧ Fun K "_law_over" "_law_over" (kst 24) f fd
  f__law_late_right : ∃ f fd, mg "_law_late_right" = some (.ref f) ∧ Fun K "_law_late_right" "_law_late_right" (kst 25) f fd
  f__law_more_right : ∃ f fd, mg "_law_more_right" = some (.ref f) ∧ Fun K "_law_more_right" "_law_more_right" (kst 26) f fd
  n_abs : mg "abs" = none
  n_all : mg "all" = none
  n_bool : mg "bool" = none
  n_int : mg "int" = none
  n_isinstance : mg "isinstance" = none
  n_len : mg "len" = none
  n_list : mg "list" = none
  n_max : mg "max" = none
  n_min : mg "min" = none
  n_range : mg "range" = none
  n_tuple : mg "tuple" = none
  n_zip : mg "zip" = none
  c_MOST_COUNTERS : ∃ t, mg "MOST_COUNTERS" = some (.int 8 t)
  c_MOST_CUSTOMERS : ∃ t, mg "MOST_CUSTOMERS" = some (.int 8 t)
section
variable {P : Program} {w : World} {K : PySem.W.Frag} {mg : Str → Option Value} {base : Heap}
theorem sc__law_well : FnScope ["script", "k", "cell"] ["script", "k"] (defScope (kst 20)) := ⟨rfl, rfl, rfl, by decide +kernel, rfl, by decide +kernel, by decide +kernel⟩
theorem ok__law_well (T : Txt K mg) : FnM P w K mg base 1 "_law_well" ["script", "k"] f__law_well := by
  obtain ⟨f, fd, hm, F⟩ := T.f__law_well
  exact fnM_mk (k := 0) F sc__law_well hm (F.binds fun _ _ _ _ _ _ us hl => match us, hl with | [_, _], _ => rfl) fun cdv A out s H E hr hg => (ss_cons (ss_setD 2 [] sc__law_well.nd s_int) (ss_cons (ss_if (st_cmp op_lt v_cmpI (s_var 1) (s_blt call_len v_len T.n_len (by rfl) (sa_cons (s_var 0) sa_nil))) (ss_one (ss_setD 2 [true, true] sc__law_well.nd (s_ix (s_var 0) (s_var 1)))) ss_nil) (ss_one (ss_ret (s_box (sa_cons (s_blt (call_max2 rfl) v_max2 T.n_max (by rfl) (sa_cons s_int (sa_cons (s_bin op_sub v_sub (s_blt call_abs v_abs T.n_abs (by rfl) (sa_cons (s_var 2) sa_nil)) (s_bin o_pow v_pow s_int s_int)) sa_nil))) (sa_cons (s_bin o_add v_add (s_bin op_mod v_mod (s_var 2) (s_bin o_add v_add (s_bin o_pow v_pow s_int s_int) s_int)) (s_bin o_mul v_mul s_int (s_var 1))) (sa_cons s_int sa_nil))))))))
theorem sc__law_dip : FnScope ["well", "wide", "found", "mixed"] ["well", "wide"] (defScope (kst 21)) := ⟨rfl, rfl, rfl, by decide +kernel, rfl, by decide +kernel, by decide +kernel⟩
theorem ok__law_dip (T : Txt K mg) : FnM P w K mg base 1 "_law_dip" ["well", "wide"] f__law_dip := by
  obtain ⟨f, fd, hm, F⟩ := T.f__law_dip
  exact fnM_mk (k := 0) F sc__law_dip hm (F.binds fun _ _ _ _ _ _ us hl => match us, hl with | [_, _], _ => rfl) fun cdv A out s H E hr hg => (ss_cons (ss_if (st_cmp op_gt v_cmpI (s_ix (s_var 0) s_int) s_int) (ss_cons (ss_setD 2 [true, true] sc__law_dip.nd (s_bin op_mod v_mod (s_ix (s_var 0) s_int) (s_var 1))) (ss_cons (ss_st 0 [true, true] (s_bin op_fdivW v_div (s_ix (s_var 0) s_int) (s_var 1)) s_int) (ss_one (ss_retV 2)))) ss_nil) (ss_cons (ss_st 0 [true] (s_bin o_add v_add (s_ix (s_var 0) s_int) s_int) s_int) (ss_cons (ss_setD 3 [true] sc__law_dip.nd (s_bin op_mod v_mod (s_bin o_pow v_pow (s_bin o_add v_add (s_ix (s_var 0) s_int) (s_bin o_mul v_mul s_int (s_ix (s_var 0) s_int))) s_int) (s_bin o_add v_add (s_bin o_pow v_pow s_int s_int) s_int))) (ss_cons (ss_setD 3 [true, false, false, true] sc__law_dip.nd (s_bin op_mod v_mod (s_bin o_pow v_pow (s_bin o_add v_add (s_var 3) (s_bin o_mul v_mul s_int (s_ix (s_var 0) s_int))) s_int) (s_bin o_add v_add (s_bin o_pow v_pow s_int s_int) s_int))) (ss_one (ss_ret (s_bin op_mod v_mod (s_bin op_fdivW v_div (s_var 3) s_int) (s_var 1))))))))
theorem sc__law_hall : FnScope ["well", "counters", "customers", "wide", "lean", "many", "found", "k", "row", "spot"] ["well", "counters", "customers", "wide"] (defScope (kst 22)) := ⟨rfl, rfl, rfl, by decide +kernel, rfl, by decide +kernel, by decide +kernel⟩
theorem ok__law_hall (T : Txt K mg) : FnM P w K mg base 2 "_law_hall" ["well", "counters", "customers", "wide"] f__law_hall := by
  obtain ⟨f, fd, hm, F⟩ := T.f__law_hall
  have c__law_dip := (ok__law_dip (P := P) (w := w) (base := base) T).mono (by decide : 1 ≤ 1)
  exact fnM_mk (k := 1) F sc__law_hall hm (F.binds fun _ _ _ _ _ _ us hl => match us, hl with | [_, _, _, _], _ => rfl) fun cdv A out s H E hr hg => (ss_cons (ss_setD 4 [true] sc__law_hall.nd (s_call c__law_dip hr hg (takes_of rfl rfl rfl rfl) (sa_cons (s_var 0) (sa_cons s_int sa_nil)))) (ss_cons (ss_setD 5 [true, false, true] sc__law_hall.nd (s_bin o_add v_add s_int (s_call c__law_dip hr hg (takes_of rfl rfl rfl rfl) (sa_cons (s_var 0) (sa_cons (s_var 2) sa_nil))))) (ss_cons (ss_setD 6 [] sc__law_hall.nd (s_lst sa_nil)) (ss_cons (ss_forP (passes_of rfl) rfl (si_range1 T.n_range (sa_cons (s_bin o_add v_add s_int (s_call c__law_dip hr hg (takes_of rfl rfl rfl rfl) (sa_cons (s_var 0) (sa_cons (s_var 1) sa_nil)))) sa_nil)) (sg_nm 7 sc__law_hall.nd) (ss_cons (ss_setD 8 [] sc__law_hall.nd (s_lst sa_nil)) (ss_cons (ss_forP (passes_of rfl) rfl (si_range1 T.n_range (sa_cons (s_var 5) sa_nil)) (sg_nm 9 sc__law_hall.nd) (ss_one (ss_appD 8 [true, false, false, true, true] (s_ix (s_lst (sa_cons (s_call c__law_dip hr hg (takes_of rfl rfl rfl rfl) (sa_cons (s_var 0) (sa_cons s_int sa_nil))) (sa_cons (s_call c__law_dip hr hg (takes_of rfl rfl rfl rfl) (sa_cons (s_var 0) (sa_cons s_int sa_nil))) (sa_cons (s_call c__law_dip hr hg (takes_of rfl rfl rfl rfl) (sa_cons (s_var 0) (sa_cons (s_var 3) sa_nil))) sa_nil)))) (s_call c__law_dip hr hg (takes_of rfl rfl rfl rfl) (sa_cons (s_var 0) (sa_cons (s_bin o_add v_add s_int (s_var 4)) sa_nil))))))) (ss_one (ss_appD 6 [false, false, false, false, false, false, false, false, true] (s_blty call_tuple_of v_tuple T.n_tuple (by rfl) (sa_cons (s_var 8) sa_nil))))))) (ss_one (ss_ret (s_blty call_tuple_of v_tuple T.n_tuple (by rfl) (sa_cons (s_var 6) sa_nil))))))))
theorem sc__law_times : FnScope ["well", "many", "wide", "lean", "found", "time", "k"] ["well", "many", "wide"] (defScope (kst 23)) := ⟨rfl, rfl, rfl, by decide +kernel, rfl, by decide +kernel, by decide +kernel⟩
theorem ok__law_times (T : Txt K mg) : FnM P w K mg base 2 "_law_times" ["well", "many", "wide"] f__law_times := by
  obtain ⟨f, fd, hm, F⟩ := T.f__law_times
  have c__law_dip := (ok__law_dip (P := P) (w := w) (base := base) T).mono (by decide : 1 ≤ 1)
  exact fnM_mk (k := 1) F sc__law_times hm (F.binds fun _ _ _ _ _ _ us hl => match us, hl with | [_, _, _], _ => rfl) fun cdv A out s H E hr hg => (ss_cons (ss_setD 3 [true] sc__law_times.nd (s_call c__law_dip hr hg (takes_of rfl rfl rfl rfl) (sa_cons (s_var 0) (sa_cons s_int sa_nil)))) (ss_cons (ss_setD 4 [] sc__law_times.nd (s_lst sa_nil)) (ss_cons (ss_setD 5 [] sc__law_times.nd s_int) (ss_cons (ss_forP (passes_of rfl) rfl (si_range1 T.n_range (sa_cons (s_var 1) sa_nil)) (sg_nm 6 sc__law_times.nd) (ss_cons (ss_setD 5 [true, false, true, true, false, true] sc__law_times.nd (s_bin o_add v_add (s_var 5) (s_ix (s_lst (sa_cons s_int (sa_cons (s_call c__law_dip hr hg (takes_of rfl rfl rfl rfl) (sa_cons (s_var 0) (sa_cons s_int sa_nil))) (sa_cons (s_call c__law_dip hr hg (takes_of rfl rfl rfl rfl) (sa_cons (s_var 0) (sa_cons (s_var 2) sa_nil))) sa_nil)))) (s_call c__law_dip hr hg (takes_of rfl rfl rfl rfl) (sa_cons (s_var 0) (sa_cons (s_bin o_add v_add s_int (s_var 3)) sa_nil)))))) (ss_one (ss_appD 4 [false, false, false, false, false, true] (s_var 5))))) (ss_one (ss_retV 4))))))
theorem sc_is_whole : FnScope ["thing"] ["thing"] (defScope (kst 7)) := ⟨rfl, rfl, rfl, by decide +kernel, rfl, by decide +kernel, by decide +kernel⟩
theorem ok_is_whole (T : Txt K mg) : FnM P w K mg base 1 "is_whole" ["thing"] f_is_whole := by
  obtain ⟨f, fd, hm, F⟩ := T.f_is_whole
  exact fnM_mk (k := 0) F sc_is_whole hm (F.binds fun _ _ _ _ _ _ us hl => match us, hl with | [_], _ => rfl) fun cdv A out s H E hr hg => (ss_one (ss_ret (s_and (s_blt call_isi v_isi T.n_isinstance (by rfl) (sa_cons (s_var 0) (sa_cons (s_ty T.n_int (by rfl)) sa_nil))) (s_one (s_not (s_blt call_isi v_isi T.n_isinstance (by rfl) (sa_cons (s_var 0) (sa_cons (s_ty T.n_bool (by rfl)) sa_nil))))))))
theorem sc_is_amount : FnScope ["thing"] ["thing"] (defScope (kst 8)) := ⟨rfl, rfl, rfl, by decide +kernel, rfl, by decide +kernel, by decide +kernel⟩
theorem ok_is_amount (T : Txt K mg) : FnM P w K mg base 2 "is_amount" ["thing"] f_is_amount := by
  obtain ⟨f, fd, hm, F⟩ := T.f_is_amount
  have c_is_whole := (ok_is_whole (P := P) (w := w) (base := base) T).mono (by decide : 1 ≤ 1)
  exact fnM_mk (k := 1) F sc_is_amount hm (F.binds fun _ _ _ _ _ _ us hl => match us, hl with | [_], _ => rfl) fun cdv A out s H E hr hg => (ss_one (ss_ret (s_and (s_call c_is_whole hr hg (takes_of rfl rfl rfl rfl) (sa_cons (s_var 0) sa_nil)) (s_one (s_cmp op_ge v_cmpI (s_var 0) s_int)))))
theorem sc_is_row : FnScope ["thing", "many", "one"] ["thing", "many"] (defScope (kst 9)) := ⟨rfl, rfl, rfl, by decide +kernel, rfl, by decide +kernel, by decide +kernel⟩
theorem ok_is_row (T : Txt K mg) : FnM P w K mg base 3 "is_row" ["thing", "many"] f_is_row := by
  obtain ⟨f, fd, hm, F⟩ := T.f_is_row
  have c_is_amount := (ok_is_amount (P := P) (w := w) (base := base) T).mono (by decide : 2 ≤ 2)
  exact fnM_mk (k := 2) F sc_is_row hm (F.binds fun _ _ _ _ _ _ us hl => match us, hl with | [_, _], _ => rfl) fun cdv A out s H E hr hg => (ss_one (ss_ret (s_and (s_blt call_isi v_isi T.n_isinstance (by rfl) (sa_cons (s_var 0) (sa_cons (s_ty T.n_tuple (by rfl)) sa_nil))) (s_and (s_cmp (op_eqD hr.units) v_eq (s_blt call_len v_len T.n_len (by rfl) (sa_cons (s_var 0) sa_nil)) (s_var 1)) (s_one (s_blt (cr_all rfl) v_all T.n_all (by rfl) (sa_cons (s_lc (own := [("one", 2)]) rfl sc_is_row.nd (si_seq (s_var 0)) (blkOk_by rfl) (fun _ _ _ _ _ => (sg_nm 2 sc_is_row.nd)) (fun _ _ _ _ _ => sts_nil) (fun _ _ _ _ _ => (s_call c_is_amount hr hg takes0 (sa_cons (s_var 2) sa_nil)))) sa_nil)))))))
theorem sc_is_hall : FnScope ["thing", "row"] ["thing"] (defScope (kst 10)) := ⟨rfl, rfl, rfl, by decide +kernel, rfl, by decide +kernel, by decide +kernel⟩
theorem ok_is_hall (T : Txt K mg) : FnM P w K mg base 4 "is_hall" ["thing"] f_is_hall := by
  obtain ⟨f, fd, hm, F⟩ := T.f_is_hall
  have c_is_row := (ok_is_row (P := P) (w := w) (base := base) T).mono (by decide : 3 ≤ 3)
  exact fnM_mk (k := 3) F sc_is_hall hm (F.binds fun _ _ _ _ _ _ us hl => match us, hl with | [_], _ => rfl) fun cdv A out s H E hr hg => (ss_cons (ss_if (SW.st (sw_or (st_not (st_val (s_blt call_isi v_isi T.n_isinstance (by rfl) (sa_cons (s_var 0) (sa_cons (s_ty T.n_tuple (by rfl)) sa_nil))))) (sw_or (st_not (st_chain op_le op_le v_cmpI v_cmpI s_int (s_blt call_len v_len T.n_len (by rfl) (sa_cons (s_var 0) sa_nil)) (s_gi T.c_MOST_COUNTERS.choose_spec))) (sw_or1 (st_not (st_val (s_blt call_isi v_isi T.n_isinstance (by rfl) (sa_cons (s_ix (s_var 0) s_int) (sa_cons (s_ty T.n_tuple (by rfl)) sa_nil))))))))) (ss_one (ss_ret s_bl)) ss_nil) (ss_one (ss_ret (s_and (s_chain op_le op_le v_cmpI v_cmpI s_int (s_blt call_len v_len T.n_len (by rfl) (sa_cons (s_ix (s_var 0) s_int) sa_nil)) (s_gi T.c_MOST_CUSTOMERS.choose_spec)) (s_one (s_blt (cr_all rfl) v_all T.n_all (by rfl) (sa_cons (s_lc (own := [("row", 1)]) rfl sc_is_hall.nd (si_seq (s_var 0)) (blkOk_by rfl) (fun _ _ _ _ _ => (sg_nm 1 sc_is_hall.nd)) (fun _ _ _ _ _ => sts_nil) (fun _ _ _ _ _ => (s_call c_is_row hr hg takes0 (sa_cons (s_var 1) (sa_cons (s_blt call_len v_len T.n_len (by rfl) (sa_cons (s_ix (s_var 0) s_int) sa_nil)) sa_nil))))) sa_nil)))))))
theorem sc_need_hall : FnScope ["hall"] ["hall"] (defScope (kst 12)) := ⟨rfl, rfl, rfl, by decide +kernel, rfl, by decide +kernel, by decide +kernel⟩
theorem ok_need_hall (T : Txt K mg) : FnM P w K mg base 5 "need_hall" ["hall"] f_need_hall := by
  obtain ⟨f, fd, hm, F⟩ := T.f_need_hall
  have c_is_hall := (ok_is_hall (P := P) (w := w) (base := base) T).mono (by decide : 4 ≤ 4)
  exact fnM_mk (k := 4) F sc_need_hall hm (F.binds fun _ _ _ _ _ _ us hl => match us, hl with | [_], _ => rfl) fun cdv A out s H E hr hg => (ss_one (ss_if (st_not (st_val (s_call c_is_hall hr hg (takes_of rfl rfl rfl rfl) (sa_cons (s_var 0) sa_nil)))) (ss_one ss_bad) ss_nil))
theorem sc_are_times : FnScope ["thing", "one", "other"] ["thing"] (defScope (kst 11)) := ⟨rfl, rfl, rfl, by decide +kernel, rfl, by decide +kernel, by decide +kernel⟩
theorem ok_are_times (T : Txt K mg) : FnM P w K mg base 3 "are_times" ["thing"] f_are_times := by
  obtain ⟨f, fd, hm, F⟩ := T.f_are_times
  have c_is_amount := (ok_is_amount (P := P) (w := w) (base := base) T).mono (by decide : 2 ≤ 2)
  exact fnM_mk (k := 2) F sc_are_times hm (F.binds fun _ _ _ _ _ _ us hl => match us, hl with | [_], _ => rfl) fun cdv A out s H E hr hg => (ss_cons (ss_if (SW.st (sw_or (st_not (st_val (s_blt call_isi v_isi T.n_isinstance (by rfl) (sa_cons (s_var 0) (sa_cons (s_ty T.n_list (by rfl)) sa_nil))))) (sw_or1 (st_not (st_val (s_blt (cr_all rfl) v_all T.n_all (by rfl) (sa_cons (s_lc (own := [("one", 1)]) rfl sc_are_times.nd (si_seq (s_var 0)) (blkOk_by rfl) (fun _ _ _ _ _ => (sg_nm 1 sc_are_times.nd)) (fun _ _ _ _ _ => sts_nil) (fun _ _ _ _ _ => (s_call c_is_amount hr hg takes0 (sa_cons (s_var 1) sa_nil)))) sa_nil))))))) (ss_one (ss_ret s_bl)) ss_nil) (ss_one (ss_ret (s_blt (cr_all rfl) v_all T.n_all (by rfl) (sa_cons (s_lc (own := [("one", 1), ("other", 2)]) rfl sc_are_times.nd (si_zip2 T.n_zip (sa_cons (s_var 0) (sa_cons (s_sl10 (s_var 0) s_int) sa_nil))) (blkOk_by rfl) (fun _ _ _ _ _ => (sg_t2 rfl (sg_nm 1 sc_are_times.nd) (sg_nm 2 sc_are_times.nd))) (fun _ _ _ _ _ => sts_nil) (fun _ _ _ _ _ => (s_cmp op_le v_cmpI (s_var 1) (s_var 2)))) sa_nil)))))
theorem sc_need_day : FnScope ["hall", "day"] ["hall", "day"] (defScope (kst 13)) := ⟨rfl, rfl, rfl, by decide +kernel, rfl, by decide +kernel, by decide +kernel⟩
theorem ok_need_day (T : Txt K mg) : FnM P w K mg base 4 "need_day" ["hall", "day"] f_need_day := by
  obtain ⟨f, fd, hm, F⟩ := T.f_need_day
  have c_are_times := (ok_are_times (P := P) (w := w) (base := base) T).mono (by decide : 3 ≤ 3)
  exact fnM_mk (k := 3) F sc_need_day hm (F.binds fun _ _ _ _ _ _ us hl => match us, hl with | [_, _], _ => rfl) fun cdv A out s H E hr hg => (ss_one (ss_if (SW.st (sw_or (st_not (st_val (s_call c_are_times hr hg (takes_of rfl rfl rfl rfl) (sa_cons (s_var 1) sa_nil)))) (sw_or1 (st_cmp (op_neD hr.units) v_ne (s_blt call_len v_len T.n_len (by rfl) (sa_cons (s_var 1) sa_nil)) (s_blt call_len v_len T.n_len (by rfl) (sa_cons (s_ix (s_var 0) s_int) sa_nil)))))) (ss_one ss_bad) ss_nil))
theorem sc_left_at : FnScope ["row", "times", "found", "free", "minutes", "time"] ["row", "times"] (defScope (kst 14)) := ⟨rfl, rfl, rfl, by decide +kernel, rfl, by decide +kernel, by decide +kernel⟩
theorem ok_left_at (T : Txt K mg) : FnM P w K mg base 1 "left_at" ["row", "times"] f_left_at := by
  obtain ⟨f, fd, hm, F⟩ := T.f_left_at
  exact fnM_mk (k := 0) F sc_left_at hm (F.binds fun _ _ _ _ _ _ us hl => match us, hl with | [_, _], _ => rfl) fun cdv A out s H E hr hg => (ss_cons (ss_setD 2 [] sc_left_at.nd (s_lst sa_nil)) (ss_cons (ss_setD 3 [] sc_left_at.nd s_int) (ss_cons (ss_for [true, true] (passes_of rfl) rfl (si_zip2 T.n_zip (sa_cons (s_var 0) (sa_cons (s_var 1) sa_nil))) (sg_t2 rfl (sg_nm 4 sc_left_at.nd) (sg_nm 5 sc_left_at.nd)) (ss_cons (ss_setD 3 [false, false, false, true, true, true] sc_left_at.nd (s_bin o_add v_add (s_blt (call_max2 rfl) v_max2 T.n_max (by rfl) (sa_cons (s_var 3) (sa_cons (s_var 5) sa_nil))) (s_var 4))) (ss_one (ss_appD 2 [false, false, false, true] (s_var 3))))) (ss_one (ss_retV 2)))))
theorem sc_leavings_of : FnScope ["hall", "day", "found", "times", "row"] ["hall", "day"] (defScope (kst 15)) := ⟨rfl, rfl, rfl, by decide +kernel, rfl, by decide +kernel, by decide +kernel⟩
theorem ok_leavings_of (T : Txt K mg) : FnM P w K mg base 2 "leavings_of" ["hall", "day"] f_leavings_of := by
  obtain ⟨f, fd, hm, F⟩ := T.f_leavings_of
  have c_left_at := (ok_left_at (P := P) (w := w) (base := base) T).mono (by decide : 1 ≤ 1)
  exact fnM_mk (k := 1) F sc_leavings_of hm (F.binds fun _ _ _ _ _ _ us hl => match us, hl with | [_, _], _ => rfl) fun cdv A out s H E hr hg => (ss_cons (ss_setD 2 [] sc_leavings_of.nd (s_lst sa_nil)) (ss_cons (ss_setD 3 [false, true] sc_leavings_of.nd (s_var 1)) (ss_cons (ss_for [true] (passes_of rfl) rfl (si_seq (s_var 0)) (sg_nm 4 sc_leavings_of.nd) (ss_cons (ss_setD 3 [false, false, false, true, true] sc_leavings_of.nd (s_call c_left_at hr hg (takes_of rfl rfl rfl rfl) (sa_cons (s_var 4) (sa_cons (s_var 3) sa_nil)))) (ss_one (ss_appD 2 [false, false, false, true] (s_var 3))))) (ss_one (ss_retV 2)))))
theorem sc_leavings : FnScope ["hall", "day"] ["hall", "day"] (defScope (kst 16)) := ⟨rfl, rfl, rfl, by decide +kernel, rfl, by decide +kernel, by decide +kernel⟩
theorem ok_leavings (T : Txt K mg) : FnM P w K mg base 6 "leavings" ["hall", "day"] f_leavings := by
  obtain ⟨f, fd, hm, F⟩ := T.f_leavings
  have c_leavings_of := (ok_leavings_of (P := P) (w := w) (base := base) T).mono (by decide : 2 ≤ 5)
  have c_need_day := (ok_need_day (P := P) (w := w) (base := base) T).mono (by decide : 4 ≤ 5)
  have c_need_hall := (ok_need_hall (P := P) (w := w) (base := base) T).mono (by decide : 5 ≤ 5)
  exact fnM_mk (k := 5) F sc_leavings hm (F.binds fun _ _ _ _ _ _ us hl => match us, hl with | [_, _], _ => rfl) fun cdv A out s H E hr hg => (ss_cons (ss_do (s_call c_need_hall hr hg (takes_of rfl rfl rfl rfl) (sa_cons (s_var 0) sa_nil))) (ss_cons (ss_do (s_call c_need_day hr hg (takes_of rfl rfl rfl rfl) (sa_cons (s_var 0) (sa_cons (s_var 1) sa_nil)))) (ss_one (ss_ret (s_call c_leavings_of hr hg (takes_of rfl rfl rfl rfl) (sa_cons (s_var 0) (sa_cons (s_var 1) sa_nil)))))))
theorem sc_waits : FnScope ["hall", "day", "gone", "found", "row", "times", "left", "minutes", "time", "end"] ["hall", "day"] (defScope (kst 18)) := ⟨rfl, rfl, rfl, by decide +kernel, rfl, by decide +kernel, by decide +kernel⟩
theorem ok_waits (T : Txt K mg) : FnM P w K mg base 6 "waits" ["hall", "day"] f_waits := by
  obtain ⟨f, fd, hm, F⟩ := T.f_waits
  have c_leavings_of := (ok_leavings_of (P := P) (w := w) (base := base) T).mono (by decide : 2 ≤ 5)
  have c_need_day := (ok_need_day (P := P) (w := w) (base := base) T).mono (by decide : 4 ≤ 5)
  have c_need_hall := (ok_need_hall (P := P) (w := w) (base := base) T).mono (by decide : 5 ≤ 5)
  exact fnM_mk (k := 5) F sc_waits hm (F.binds fun _ _ _ _ _ _ us hl => match us, hl with | [_, _], _ => rfl) fun cdv A out s H E hr hg => (ss_cons (ss_do (s_call c_need_hall hr hg (takes_of rfl rfl rfl rfl) (sa_cons (s_var 0) sa_nil))) (ss_cons (ss_do (s_call c_need_day hr hg (takes_of rfl rfl rfl rfl) (sa_cons (s_var 0) (sa_cons (s_var 1) sa_nil)))) (ss_cons (ss_setD 2 [true, true] sc_waits.nd (s_call c_leavings_of hr hg (takes_of rfl rfl rfl rfl) (sa_cons (s_var 0) (sa_cons (s_var 1) sa_nil)))) (ss_cons (ss_setD 3 [] sc_waits.nd (s_lst sa_nil)) (ss_cons (ss_for [true, true, true] (passes_of rfl) rfl (si_zip3 T.n_zip (sa_cons (s_var 0) (sa_cons (s_bin o_add v_add (s_lst (sa_cons (s_var 1) sa_nil)) (s_var 2)) (sa_cons (s_var 2) sa_nil)))) (sg_t3 rfl (sg_nm 4 sc_waits.nd) (sg_nm 5 sc_waits.nd) (sg_nm 6 sc_waits.nd)) (ss_one (ss_appD 3 [false, false, false, false, true, true, true, true, true, true] (s_lc (own := [("minutes", 7), ("time", 8), ("end", 9)]) rfl sc_waits.nd (si_zip3 T.n_zip (sa_cons (s_var 4) (sa_cons (s_var 5) (sa_cons (s_var 6) sa_nil)))) (blkOk_by rfl) (fun _ _ _ _ _ => (sg_t3 rfl (sg_nm 7 sc_waits.nd) (sg_nm 8 sc_waits.nd) (sg_nm 9 sc_waits.nd))) (fun _ _ _ _ _ => sts_nil) (fun _ _ _ _ _ => (s_bin op_sub v_sub (s_bin op_sub v_sub (s_var 9) (s_var 7)) (s_var 8))))))) (ss_one (ss_retV 3)))))))
theorem sc_last : FnScope ["hall", "day"] ["hall", "day"] (defScope (kst 17)) := ⟨rfl, rfl, rfl, by decide +kernel, rfl, by decide +kernel, by decide +kernel⟩
theorem ok_last (T : Txt K mg) : FnM P w K mg base 6 "last" ["hall", "day"] f_last := by
  obtain ⟨f, fd, hm, F⟩ := T.f_last
  have c_leavings_of := (ok_leavings_of (P := P) (w := w) (base := base) T).mono (by decide : 2 ≤ 5)
  have c_need_day := (ok_need_day (P := P) (w := w) (base := base) T).mono (by decide : 4 ≤ 5)
  have c_need_hall := (ok_need_hall (P := P) (w := w) (base := base) T).mono (by decide : 5 ≤ 5)
  exact fnM_mk (k := 5) F sc_last hm (F.binds fun _ _ _ _ _ _ us hl => match us, hl with | [_, _], _ => rfl) fun cdv A out s H E hr hg => (ss_cons (ss_do (s_call c_need_hall hr hg (takes_of rfl rfl rfl rfl) (sa_cons (s_var 0) sa_nil))) (ss_cons (ss_do (s_call c_need_day hr hg (takes_of rfl rfl rfl rfl) (sa_cons (s_var 0) (sa_cons (s_var 1) sa_nil)))) (ss_one (ss_ret (s_ix (s_call c_leavings_of hr hg (takes_of rfl rfl rfl rfl) (sa_cons (s_var 0) (sa_cons (s_var 1) sa_nil))) (s_un un_neg v_neg s_int))))))
theorem sc__law_over : FnScope ["here", "there", "found", "one", "other", "time", "later"] ["here", "there"] (defScope (kst 24)) := ⟨rfl, rfl, rfl, by decide +kernel, rfl, by decide +kernel, by decide +kernel⟩
theorem ok__law_over (T : Txt K mg) : FnM P w K mg base 1 "_law_over" ["here", "there"] f__law_over := by
  obtain ⟨f, fd, hm, F⟩ := T.f__law_over
  exact fnM_mk (k := 0) F sc__law_over hm (F.binds fun _ _ _ _ _ _ us hl => match us, hl with | [_, _], _ => rfl) fun cdv A out s H E hr hg => (ss_cons (ss_setD 2 [] sc__law_over.nd (s_lst sa_nil)) (ss_cons (ss_for [true, true] (passes_of rfl) rfl (si_zip2 T.n_zip (sa_cons (s_var 0) (sa_cons (s_var 1) sa_nil))) (sg_t2 rfl (sg_nm 3 sc__law_over.nd) (sg_nm 4 sc__law_over.nd)) (ss_one (ss_ext 2 [false, false, false, true, true, true, true] (s_lc (own := [("time", 5), ("later", 6)]) rfl sc__law_over.nd (si_zip2 T.n_zip (sa_cons (s_var 3) (sa_cons (s_var 4) sa_nil))) (blkOk_by rfl) (fun _ _ _ _ _ => (sg_t2 rfl (sg_nm 5 sc__law_over.nd) (sg_nm 6 sc__law_over.nd))) (fun _ _ _ _ _ => sts_nil) (fun _ _ _ _ _ => (s_bin op_sub v_sub (s_var 6) (s_var 5))))))) (ss_one (ss_retV 2))))
theorem sc__law_late_right : FnScope ["well", "desks", "times", "who", "late", "other", "time", "here", "there", "over", "row"] ["well", "desks", "times"] (defScope (kst 25)) := ⟨rfl, rfl, rfl, by decide +kernel, rfl, by decide +kernel, by decide +kernel⟩
theorem ok__law_late_right (T : Txt K mg) : FnM P w K mg base 7 "_law_late_right" ["well", "desks", "times"] f__law_late_right := by
  obtain ⟨f, fd, hm, F⟩ := T.f__law_late_right
  have c__law_over := (ok__law_over (P := P) (w := w) (base := base) T).mono (by decide : 1 ≤ 6)
  have c_leavings := (ok_leavings (P := P) (w := w) (base := base) T).mono (by decide : 6 ≤ 6)
  have c__law_dip := (ok__law_dip (P := P) (w := w) (base := base) T).mono (by decide : 1 ≤ 6)
  exact fnM_mk (k := 6) F sc__law_late_right hm (F.binds fun _ _ _ _ _ _ us hl => match us, hl with | [_, _, _], _ => rfl) fun cdv A out s H E hr hg => (ss_cons (ss_setD 3 [true, false, true] sc__law_late_right.nd (s_call c__law_dip hr hg (takes_of rfl rfl rfl rfl) (sa_cons (s_var 0) (sa_cons (s_blt call_len v_len T.n_len (by rfl) (sa_cons (s_var 2) sa_nil)) sa_nil)))) (ss_cons (ss_setD 4 [true] sc__law_late_right.nd (s_call c__law_dip hr hg (takes_of rfl rfl rfl rfl) (sa_cons (s_var 0) (sa_cons (s_ix (s_lst (sa_cons s_int (sa_cons (s_bin o_pow v_pow s_int s_int) sa_nil))) (s_call c__law_dip hr hg (takes_of rfl rfl rfl rfl) (sa_cons (s_var 0) (sa_cons s_int sa_nil)))) sa_nil)))) (ss_cons (ss_setD 5 [false, false, true, true, true, false, true] sc__law_late_right.nd (s_bin o_add v_add (s_sl01 (s_var 2) (s_var 3)) (s_lc (own := [("time", 6)]) rfl sc__law_late_right.nd (si_seq (s_sl10 (s_var 2) (s_var 3))) (blkOk_by rfl) (fun _ _ _ _ _ => (sg_nm 6 sc__law_late_right.nd)) (fun _ _ _ _ _ => sts_nil) (fun _ _ _ _ _ => (s_blt (call_max2 rfl) v_max2 T.n_max (by rfl) (sa_cons (s_var 6) (sa_cons (s_bin o_add v_add (s_ix (s_var 2) (s_var 3)) (s_var 4)) sa_nil))))))) (ss_cons (ss_par2 7 8 [false, true, true, false, false, true] rfl sc__law_late_right.nd (sa_cons (s_call c_leavings hr hg (takes_of rfl rfl rfl rfl) (sa_cons (s_var 1) (sa_cons (s_var 2) sa_nil))) (sa_cons (s_call c_leavings hr hg (takes_of rfl rfl rfl rfl) (sa_cons (s_var 1) (sa_cons (s_var 5) sa_nil))) sa_nil))) (ss_cons (ss_setD 9 [false, false, false, false, false, false, false, true, true] sc__law_late_right.nd (s_call c__law_over hr hg (takes_of rfl rfl rfl rfl) (sa_cons (s_var 7) (sa_cons (s_var 8) sa_nil)))) (ss_cons (ss_if (SW.st (sw_or (st_cmp op_lt v_cmpI (s_blt (CallR.or (cr_min rfl) (cr_minT rfl hr.units)) (OpV.or v_minL v_minT) T.n_min (by rfl) (sa_cons (s_var 9) sa_nil)) s_int) (sw_or1 (st_cmp op_gt v_cmpI (s_blt (CallR.or (cr_max rfl) (cr_maxT rfl hr.units)) (OpV.or v_maxL v_maxT) T.n_max (by rfl) (sa_cons (s_var 9) sa_nil)) (s_var 4))))) (ss_one (ss_ret s_bl)) ss_nil) (ss_one (ss_ret (s_cmp (op_eqD hr.units) v_eq (s_lc (own := [("row", 10)]) rfl sc__law_late_right.nd (si_seq (s_var 7)) (blkOk_by rfl) (fun _ _ _ _ _ => (sg_nm 10 sc__law_late_right.nd)) (fun _ _ _ _ _ => sts_nil) (fun _ _ _ _ _ => (s_sl01 (s_var 10) (s_var 3)))) (s_lc (own := [("row", 10)]) rfl sc__law_late_right.nd (si_seq (s_var 8)) (blkOk_by rfl) (fun _ _ _ _ _ => (sg_nm 10 sc__law_late_right.nd)) (fun _ _ _ _ _ => sts_nil) (fun _ _ _ _ _ => (s_sl01 (s_var 10) (s_var 3)))))))))))))
theorem sc__law_more_right : FnScope ["well", "desks", "times", "desk", "who", "more", "row", "wider", "here", "there", "over", "one"] ["well", "desks", "times"] (defScope (kst 26)) := ⟨rfl, rfl, rfl, by decide +kernel, rfl, by decide +kernel, by decide +kernel⟩
theorem ok__law_more_right (T : Txt K mg) : FnM P w K mg base 7 "_law_more_right" ["well", "desks", "times"] f__law_more_right := by
  obtain ⟨f, fd, hm, F⟩ := T.f__law_more_right
  have c__law_over := (ok__law_over (P := P) (w := w) (base := base) T).mono (by decide : 1 ≤ 6)
  have c_leavings := (ok_leavings (P := P) (w := w) (base := base) T).mono (by decide : 6 ≤ 6)
  have c__law_dip := (ok__law_dip (P := P) (w := w) (base := base) T).mono (by decide : 1 ≤ 6)
  exact fnM_mk (k := 6) F sc__law_more_right hm (F.binds fun _ _ _ _ _ _ us hl => match us, hl with | [_, _, _], _ => rfl) fun cdv A out s H E hr hg => (ss_cons (ss_unp [true, true, true] (s_tup (sa_cons (s_call c__law_dip hr hg (takes_of rfl rfl rfl rfl) (sa_cons (s_var 0) (sa_cons (s_blt call_len v_len T.n_len (by rfl) (sa_cons (s_var 1) sa_nil)) sa_nil))) (sa_cons (s_call c__law_dip hr hg (takes_of rfl rfl rfl rfl) (sa_cons (s_var 0) (sa_cons (s_blt call_len v_len T.n_len (by rfl) (sa_cons (s_var 2) sa_nil)) sa_nil))) sa_nil))) (sg_t2 rfl (sg_nm 3 sc__law_more_right.nd) (sg_nm 4 sc__law_more_right.nd))) (ss_cons (ss_setD 5 [true] sc__law_more_right.nd (s_bin o_add v_add s_int (s_call c__law_dip hr hg (takes_of rfl rfl rfl rfl) (sa_cons (s_var 0) (sa_cons (s_ix (s_lst (sa_cons s_int (sa_cons (s_bin o_pow v_pow s_int s_int) sa_nil))) (s_call c__law_dip hr hg (takes_of rfl rfl rfl rfl) (sa_cons (s_var 0) (sa_cons s_int sa_nil)))) sa_nil))))) (ss_cons (ss_setD 6 [false, true, false, true] sc__law_more_right.nd (s_ix (s_var 1) (s_var 3))) (ss_cons (ss_setD 7 [false, false, false, false, true, true, true] sc__law_more_right.nd (s_bin o_add v_add (s_bin o_add v_add (s_sl01 (s_var 6) (s_var 4)) (s_tup (sa_cons (s_bin o_add v_add (s_ix (s_var 6) (s_var 4)) (s_var 5)) sa_nil))) (s_sl10 (s_var 6) (s_bin o_add v_add (s_var 4) s_int)))) (ss_cons (ss_par2 8 9 [false, true, true, true, false, false, false, true] rfl sc__law_more_right.nd (sa_cons (s_call c_leavings hr hg (takes_of rfl rfl rfl rfl) (sa_cons (s_var 1) (sa_cons (s_var 2) sa_nil))) (sa_cons (s_call c_leavings hr hg (takes_of rfl rfl rfl rfl) (sa_cons (s_bin o_add v_add (s_bin o_add v_add (s_sl01 (s_var 1) (s_var 3)) (s_tup (sa_cons (s_var 7) sa_nil))) (s_sl10 (s_var 1) (s_bin o_add v_add (s_var 3) s_int))) (sa_cons (s_var 2) sa_nil))) sa_nil))) (ss_cons (ss_setD 10 [false, false, false, false, false, false, false, false, true, true] sc__law_more_right.nd (s_call c__law_over hr hg (takes_of rfl rfl rfl rfl) (sa_cons (s_var 8) (sa_cons (s_var 9) sa_nil)))) (ss_cons (ss_if (SW.st (sw_or (st_cmp op_lt v_cmpI (s_blt (CallR.or (cr_min rfl) (cr_minT rfl hr.units)) (OpV.or v_minL v_minT) T.n_min (by rfl) (sa_cons (s_var 10) sa_nil)) s_int) (sw_or (st_cmp op_gt v_cmpI (s_blt (CallR.or (cr_max rfl) (cr_maxT rfl hr.units)) (OpV.or v_maxL v_maxT) T.n_max (by rfl) (sa_cons (s_var 10) sa_nil)) (s_var 5)) (sw_or1 (st_cmp (op_neD hr.units) v_ne (s_bin op_sub v_sub (s_ix (s_ix (s_var 9) (s_var 3)) (s_var 4)) (s_ix (s_ix (s_var 8) (s_var 3)) (s_var 4))) (s_var 5)))))) (ss_one (ss_ret s_bl)) ss_nil) (ss_one (ss_ret (s_and (s_cmp (op_eqD hr.units) v_eq (s_sl01 (s_var 8) (s_var 3)) (s_sl01 (s_var 9) (s_var 3))) (s_one (s_cmp (op_eqD hr.units) v_eq (s_lc (own := [("one", 11)]) rfl sc__law_more_right.nd (si_seq (s_var 8)) (blkOk_by rfl) (fun _ _ _ _ _ => (sg_nm 11 sc__law_more_right.nd)) (fun _ _ _ _ _ => sts_nil) (fun _ _ _ _ _ => (s_sl01 (s_var 11) (s_var 4)))) (s_lc (own := [("one", 11)]) rfl sc__law_more_right.nd (si_seq (s_var 9)) (blkOk_by rfl) (fun _ _ _ _ _ => (sg_nm 11 sc__law_more_right.nd)) (fun _ _ _ _ _ => sts_nil) (fun _ _ _ _ _ => (s_sl01 (s_var 11) (s_var 4))))))))))))))))
theorem sc_law : FnScope ["script", "k", "well", "turn", "desks", "many", "times", "others", "here", "there", "shift", "moved_day", "time", "row", "both", "pair", "due", "one", "other", "left", "p"] ["script"] (defScope (kst 27)) := ⟨rfl, rfl, rfl, by decide +kernel, rfl, by decide +kernel, by decide +kernel⟩
theorem ok_law {f : Addr} {fd : FuncData} (T : Txt K mg) (F : Fun K "law" "law" (kst 27) f fd) : FnG P w K mg base 8 f fd ["script"] (spF K mg f_law) := by
  have c__law_more_right := (ok__law_more_right (P := P) (w := w) (base := base) T).mono (by decide : 7 ≤ 7)
  have c__law_late_right := (ok__law_late_right (P := P) (w := w) (base := base) T).mono (by decide : 7 ≤ 7)
  have c_last := (ok_last (P := P) (w := w) (base := base) T).mono (by decide : 6 ≤ 7)
  have c_leavings := (ok_leavings (P := P) (w := w) (base := base) T).mono (by decide : 6 ≤ 7)
  have c_waits := (ok_waits (P := P) (w := w) (base := base) T).mono (by decide : 6 ≤ 7)
  have c__law_dip := (ok__law_dip (P := P) (w := w) (base := base) T).mono (by decide : 1 ≤ 7)
  have c__law_times := (ok__law_times (P := P) (w := w) (base := base) T).mono (by decide : 2 ≤ 7)
  have c__law_hall := (ok__law_hall (P := P) (w := w) (base := base) T).mono (by decide : 2 ≤ 7)
  have c__law_well := (ok__law_well (P := P) (w := w) (base := base) T).mono (by decide : 1 ≤ 7)
  exact fnG_mk (k := 7) F sc_law fun cdv A out s H E hr hg => (ss_cons (ss_forP (passes_of rfl) rfl (si_range1 T.n_range (sa_cons (s_blt (call_max2 rfl) v_max2 T.n_max (by rfl) (sa_cons s_int (sa_cons (s_blt (call_min2 rfl) v_min2 T.n_min (by rfl) (sa_cons s_int (sa_cons (s_blt call_len v_len T.n_len (by rfl) (sa_cons (s_var 0) sa_nil)) sa_nil))) sa_nil))) sa_nil)) (sg_nm 1 sc_law.nd) (ss_cons (ss_setD 2 [true, true] sc_law.nd (s_call c__law_well hr hg (takes_of rfl rfl rfl rfl) (sa_cons (s_var 0) (sa_cons (s_var 1) sa_nil)))) (ss_one (ss_forP (passes_of rfl) rfl (si_range1 T.n_range (sa_cons s_int sa_nil)) (sg_nm 3 sc_law.nd) (ss_cons (ss_setD 4 [false, false, true] sc_law.nd (s_call c__law_hall hr hg (takes_of rfl rfl rfl rfl) (sa_cons (s_var 2) (sa_cons s_int (sa_cons s_int (sa_cons (s_bin o_pow v_pow s_int s_int) sa_nil)))))) (ss_cons (ss_setD 5 [false, false, false, false, true] sc_law.nd (s_blt call_len v_len T.n_len (by rfl) (sa_cons (s_ix (s_var 4) s_int) sa_nil))) (ss_cons (ss_par2 6 7 [false, false, true, false, false, true] rfl sc_law.nd (sa_cons (s_call c__law_times hr hg (takes_of rfl rfl rfl rfl) (sa_cons (s_var 2) (sa_cons (s_var 5) (sa_cons (s_bin o_pow v_pow s_int s_int) sa_nil)))) (sa_cons (s_call c__law_times hr hg (takes_of rfl rfl rfl rfl) (sa_cons (s_var 2) (sa_cons (s_var 5) (sa_cons (s_bin o_pow v_pow s_int s_int) sa_nil)))) sa_nil))) (ss_cons (ss_par2 8 9 [false, false, false, false, true, false, true, true] rfl sc_law.nd (sa_cons (s_call c_leavings hr hg (takes_of rfl rfl rfl rfl) (sa_cons (s_var 4) (sa_cons (s_var 6) sa_nil))) (sa_cons (s_call c_leavings hr hg (takes_of rfl rfl rfl rfl) (sa_cons (s_var 4) (sa_cons (s_var 7) sa_nil))) sa_nil))) (ss_cons (ss_setD 10 [false, false, true] sc_law.nd (s_call c__law_dip hr hg (takes_of rfl rfl rfl rfl) (sa_cons (s_var 2) (sa_cons (s_bin o_pow v_pow s_int s_int) sa_nil)))) (ss_cons (ss_setLc 11 [false, false, false, false, false, false, true, false, false, false, true, false, true] (own := [("time", 12)]) rfl sc_law.nd (si_seq (s_var 6)) (blkOk_by rfl) (fun _ _ _ _ _ => (sg_nm 12 sc_law.nd)) (fun _ _ _ _ _ => sts_nil) (fun _ _ _ _ _ => (s_bin o_add v_add (s_var 12) (s_var 10)))) (ss_cons (ss_if (st_cmp (op_neD hr.units) v_ne (s_call c_leavings hr hg (takes_of rfl rfl rfl rfl) (sa_cons (s_var 4) (sa_cons (s_var 11) sa_nil))) (s_lc (own := [("row", 13)]) rfl sc_law.nd (si_seq (s_var 8)) (blkOk_by rfl) (fun _ _ _ _ _ => (sg_nm 13 sc_law.nd)) (fun _ _ _ _ _ => sts_nil) (fun _ _ _ _ _ => (s_lc (own := [("time", 12)]) rfl sc_law.nd (si_seq (s_var 13)) (blkOk_by rfl) (fun _ _ _ _ _ => (sg_nm 12 sc_law.nd)) (fun _ _ _ _ _ => sts_nil) (fun _ _ _ _ _ => (s_bin o_add v_add (s_var 12) (s_var 10))))))) (ss_one (ss_ret s_bl)) ss_nil) (ss_cons (ss_if (st_cmp (op_neD hr.units) v_ne (s_call c_waits hr hg (takes_of rfl rfl rfl rfl) (sa_cons (s_var 4) (sa_cons (s_var 11) sa_nil))) (s_call c_waits hr hg (takes_of rfl rfl rfl rfl) (sa_cons (s_var 4) (sa_cons (s_var 6) sa_nil)))) (ss_one (ss_ret s_bl)) ss_nil) (ss_cons (ss_setLc 14 [false, false, false, false, false, false, true, true, false, false, false, false, false, false, false, true] (own := [("pair", 15)]) rfl sc_law.nd (si_zip2N T.n_zip (sa_cons (s_var 6) (sa_cons (s_var 7) sa_nil))) (blkOk_by rfl) (fun _ _ _ _ _ => (sg_nm 15 sc_law.nd)) (fun _ _ _ _ _ => sts_nil) (fun _ _ _ _ _ => (s_blt (CallR.or (cr_max rfl) (cr_maxT rfl hr.units)) (OpV.or v_maxL v_maxT) T.n_max (by rfl) (sa_cons (s_var 15) sa_nil)))) (ss_cons (ss_setLc 16 [false, false, false, false, false, false, false, false, true, true, false, false, false, false, false, true, false, true, true] (own := [("one", 17), ("other", 18)]) rfl sc_law.nd (si_zip2 T.n_zip (sa_cons (s_var 8) (sa_cons (s_var 9) sa_nil))) (blkOk_by rfl) (fun _ _ _ _ _ => (sg_t2 rfl (sg_nm 17 sc_law.nd) (sg_nm 18 sc_law.nd))) (fun _ _ _ _ _ => sts_nil) (fun _ _ _ _ _ => (s_lc (own := [("pair", 15)]) rfl sc_law.nd (si_zip2N T.n_zip (sa_cons (s_var 17) (sa_cons (s_var 18) sa_nil))) (blkOk_by rfl) (fun _ _ _ _ _ => (sg_nm 15 sc_law.nd)) (fun _ _ _ _ _ => sts_nil) (fun _ _ _ _ _ => (s_blt (CallR.or (cr_max rfl) (cr_maxT rfl hr.units)) (OpV.or v_maxL v_maxT) T.n_max (by rfl) (sa_cons (s_var 15) sa_nil)))))) (ss_cons (ss_if (SW.st (sw_or (st_cmp (op_neD hr.units) v_ne (s_call c_leavings hr hg (takes_of rfl rfl rfl rfl) (sa_cons (s_var 4) (sa_cons (s_var 14) sa_nil))) (s_var 16)) (sw_or1 (st_cmp (op_neD hr.units) v_ne (s_call c_last hr hg (takes_of rfl rfl rfl rfl) (sa_cons (s_var 4) (sa_cons (s_var 14) sa_nil))) (s_ix (s_var 16) (s_un un_neg v_neg s_int)))))) (ss_one (ss_ret s_bl)) ss_nil) (ss_cons (ss_for [false, false, false, false, true, false, false, false, true] (passes_of rfl) rfl (si_zip2 T.n_zip (sa_cons (s_var 4) (sa_cons (s_var 8) sa_nil))) (sg_t2 rfl (sg_nm 13 sc_law.nd) (sg_nm 19 sc_law.nd)) (ss_one (ss_if (st_cmp (op_neD hr.units) v_ne (s_lc (own := [("p", 20)]) rfl sc_law.nd (SI.weak (si_range2 T.n_range (sa_cons s_int (sa_cons (s_var 5) sa_nil)))) (blkOk_by rfl) (fun _ _ _ _ _ => (sg_nm 20 sc_law.nd)) (fun _ _ _ _ _ => (sts_one (st_cmp op_lt v_cmpI (s_bin op_sub v_sub (s_ix (s_var 19) (s_var 20)) (s_ix (s_var 19) (s_bin op_sub v_sub (s_var 20) s_int))) (s_ix (s_var 13) (s_var 20))))) (fun _ _ _ _ _ => (s_var 20))) (s_lst sa_nil)) (ss_one (ss_ret s_bl)) ss_nil))) (ss_one (ss_if (SW.st (sw_or (st_not (st_val (s_call c__law_late_right hr hg (takes_of rfl rfl rfl rfl) (sa_cons (s_var 2) (sa_cons (s_var 4) (sa_cons (s_var 6) sa_nil)))))) (sw_or1 (st_not (st_val (s_call c__law_more_right hr hg (takes_of rfl rfl rfl rfl) (sa_cons (s_var 2) (sa_cons (s_var 4) (sa_cons (s_var 6) sa_nil))))))))) (ss_one (ss_ret s_bl)) ss_nil)))))))))))))))))) (ss_one (ss_ret s_bl)))
end
end Zm
set_option Elab.async false
set_option linter.all false
set_option maxRecDepth 100000
set_option autoImplicit false
namespace Zm
open PySem PySem.Spec PyProof.Rows L2
theorem all_mk {P : Program} {w : World} {K : PySem.W.Frag} {h : Heap} {mg : Str → Option Value} {fa : Addr} {f0 : Addr} {od0 an0 : Option Addr} {sl0 : Array (Option Value)} {oc0 kV0 dc0 pm0 cd0 ct0 : Value} {f1 : Addr} {od1 an1 : Option Addr} {sl1 : Array (Option Value)} {oc1 kV1 dc1 pm1 cd1 ct1 : Value} {f2 : Addr} {od2 an2 : Option Addr} {sl2 : Array (Option Value)} {oc2 kV2 dc2 pm2 cd2 ct2 : Value} {f3 : Addr} {od3 an3 : Option Addr} {sl3 : Array (Option Value)} {oc3 kV3 dc3 pm3 cd3 ct3 : Value} {f4 : Addr} {od4 an4 : Option Addr} {sl4 : Array (Option Value)} {oc4 kV4 dc4 pm4 cd4 ct4 : Value} {f5 : Addr} {od5 an5 : Option Addr} {sl5 : Array (Option Value)} {oc5 kV5 dc5 pm5 cd5 ct5 : Value} {f6 : Addr} {od6 an6 : Option Addr} {sl6 : Array (Option Value)} {oc6 kV6 dc6 pm6 cd6 ct6 : Value} {f7 : Addr} {od7 an7 : Option Addr} {sl7 : Array (Option Value)} {oc7 kV7 dc7 pm7 cd7 ct7 : Value} {f8 : Addr} {od8 an8 : Option Addr} {sl8 : Array (Option Value)} {oc8 kV8 dc8 pm8 cd8 ct8 : Value} {f9 : Addr} {od9 an9 : Option Addr} {sl9 : Array (Option Value)} {oc9 kV9 dc9 pm9 cd9 ct9 : Value} {f10 : Addr} {od10 an10 : Option Addr} {sl10 : Array (Option Value)} {oc10 kV10 dc10 pm10 cd10 ct10 : Value} {f11 : Addr} {od11 an11 : Option Addr} {sl11 : Array (Option Value)} {oc11 kV11 dc11 pm11 cd11 ct11 : Value} {f12 : Addr} {od12 an12 : Option Addr} {sl12 : Array (Option Value)} {oc12 kV12 dc12 pm12 cd12 ct12 : Value} {f13 : Addr} {od13 an13 : Option Addr} {sl13 : Array (Option Value)} {oc13 kV13 dc13 pm13 cd13 ct13 : Value} {f14 : Addr} {od14 an14 : Option Addr} {sl14 : Array (Option Value)} {oc14 kV14 dc14 pm14 cd14 ct14 : Value} {f15 : Addr} {od15 an15 : Option Addr} {sl15 : Array (Option Value)} {oc15 kV15 dc15 pm15 cd15 ct15 : Value} {f16 : Addr} {od16 an16 : Option Addr} {sl16 : Array (Option Value)} {oc16 kV16 dc16 pm16 cd16 ct16 : Value} {f17 : Addr} {od17 an17 : Option Addr} {sl17 : Array (Option Value)} {oc17 kV17 dc17 pm17 cd17 ct17 : Value} {f18 : Addr} {od18 an18 : Option Addr} {sl18 : Array (Option Value)} {oc18 kV18 dc18 pm18 cd18 ct18 : Value} {f19 : Addr} {od19 an19 : Option Addr} {sl19 : Array (Option Value)} {oc19 kV19 dc19 pm19 cd19 ct19 : Value} {t_MOST_COUNTERS : Tok} {t_MOST_CUSTOMERS : Tok} (X : K.In h) (G : h.Ns mainGlobals mg) (hfa : mg "law" = some (.ref fa))
    (a0 : PySem.W.nsIn K mainGlobals "_law_well" = some (some (.ref f0))) (l0 : K.lookup f0 = some ⟨oc0, od0, .func (PySem.W.fnOf "_law_well" "_law_well" (defArgs (kst 20)) (defBody (kst 20)) (defScope (kst 20)) .none kV0 dc0 pm0 an0 cd0 ct0), sl0⟩) (c0 : PySem.W.codeIn K cd0 "_law_well" = true) (k0 : PySem.W.keepIn K (.ref f0) = true)
    (a1 : PySem.W.nsIn K mainGlobals "_law_dip" = some (some (.ref f1))) (l1 : K.lookup f1 = some ⟨oc1, od1, .func (PySem.W.fnOf "_law_dip" "_law_dip" (defArgs (kst 21)) (defBody (kst 21)) (defScope (kst 21)) .none kV1 dc1 pm1 an1 cd1 ct1), sl1⟩) (c1 : PySem.W.codeIn K cd1 "_law_dip" = true) (k1 : PySem.W.keepIn K (.ref f1) = true)
    (a2 : PySem.W.nsIn K mainGlobals "_law_hall" = some (some (.ref f2))) (l2 : K.lookup f2 = some ⟨oc2, od2, .func (PySem.W.fnOf "_law_hall" "_law_hall" (defArgs (kst 22)) (defBody (kst 22)) (defScope (kst 22)) .none kV2 dc2 pm2 an2 cd2 ct2), sl2⟩) (c2 : PySem.W.codeIn K cd2 "_law_hall" = true) (k2 : PySem.W.keepIn K (.ref f2) = true)
    (a3 : PySem.W.nsIn K mainGlobals "_law_times" = some (some (.ref f3))) (l3 : K.lookup f3 = some ⟨oc3, od3, .func (PySem.W.fnOf "_law_times" "_law_times" (defArgs (kst 23)) (defBody (kst 23)) (defScope (kst 23)) .none kV3 dc3 pm3 an3 cd3 ct3), sl3⟩) (c3 : PySem.W.codeIn K cd3 "_law_times" = true) (k3 : PySem.W.keepIn K (.ref f3) = true)
    (a4 : PySem.W.nsIn K mainGlobals "is_whole" = some (some (.ref f4))) (l4 : K.lookup f4 = some ⟨oc4, od4, .func (PySem.W.fnOf "is_whole" "is_whole" (defArgs (kst 7)) (defBody (kst 7)) (defScope (kst 7)) .none kV4 dc4 pm4 an4 cd4 ct4), sl4⟩) (c4 : PySem.W.codeIn K cd4 "is_whole" = true) (k4 : PySem.W.keepIn K (.ref f4) = true)
    (a5 : PySem.W.nsIn K mainGlobals "is_amount" = some (some (.ref f5))) (l5 : K.lookup f5 = some ⟨oc5, od5, .func (PySem.W.fnOf "is_amount" "is_amount" (defArgs (kst 8)) (defBody (kst 8)) (defScope (kst 8)) .none kV5 dc5 pm5 an5 cd5 ct5), sl5⟩) (c5 : PySem.W.codeIn K cd5 "is_amount" = true) (k5 : PySem.W.keepIn K (.ref f5) = true)
    (a6 : PySem.W.nsIn K mainGlobals "is_row" = some (some (.ref f6))) (l6 : K.lookup f6 = some ⟨oc6, od6, .func (PySem.W.fnOf "is_row" "is_row" (defArgs (kst 9)) (defBody (kst 9)) (defScope (kst 9)) .none kV6 dc6 pm6 an6 cd6 ct6), sl6⟩) (c6 : PySem.W.codeIn K cd6 "is_row" = true) (k6 : PySem.W.keepIn K (.ref f6) = true)
    (a7 : PySem.W.nsIn K mainGlobals "is_hall" = some (some (.ref f7))) (l7 : K.lookup f7 = some ⟨oc7, od7, .func (PySem.W.fnOf "is_hall" "is_hall" (defArgs (kst 10)) (defBody (kst 10)) (defScope (kst 10)) .none kV7 dc7 pm7 an7 cd7 ct7), sl7⟩) (c7 : PySem.W.codeIn K cd7 "is_hall" = true) (k7 : PySem.W.keepIn K (.ref f7) = true)
    (a8 : PySem.W.nsIn K mainGlobals "need_hall" = some (some (.ref f8))) (l8 : K.lookup f8 = some ⟨oc8, od8, .func (PySem.W.fnOf "need_hall" "need_hall" (defArgs (kst 12)) (defBody (kst 12)) (defScope (kst 12)) .none kV8 dc8 pm8 an8 cd8 ct8), sl8⟩) (c8 : PySem.W.codeIn K cd8 "need_hall" = true) (k8 : PySem.W.keepIn K (.ref f8) = true)
    (a9 : PySem.W.nsIn K mainGlobals "are_times" = some (some (.ref f9))) (l9 : K.lookup f9 = some ⟨oc9, od9, .func (PySem.W.fnOf "are_times" "are_times" (defArgs (kst 11)) (defBody (kst 11)) (defScope (kst 11)) .none kV9 dc9 pm9 an9 cd9 ct9), sl9⟩) (c9 : PySem.W.codeIn K cd9 "are_times" = true) (k9 : PySem.W.keepIn K (.ref f9) = true)
    (a10 : PySem.W.nsIn K mainGlobals "need_day" = some (some (.ref f10))) (l10 : K.lookup f10 = some ⟨oc10, od10, .func (PySem.W.fnOf "need_day" "need_day" (defArgs (kst 13)) (defBody (kst 13)) (defScope (kst 13)) .none kV10 dc10 pm10 an10 cd10 ct10), sl10⟩) (c10 : PySem.W.codeIn K cd10 "need_day" = true) (k10 : PySem.W.keepIn K (.ref f10) = true)
    (a11 : PySem.W.nsIn K mainGlobals "left_at" = some (some (.ref f11))) (l11 : K.lookup f11 = some ⟨oc11, od11, .func (PySem.W.fnOf "left_at" "left_at" (defArgs (kst 14)) (defBody (kst 14)) (defScope (kst 14)) .none kV11 dc11 pm11 an11 cd11 ct11), sl11⟩) (c11 : PySem.W.codeIn K cd11 "left_at" = true) (k11 : PySem.W.keepIn K (.ref f11) = true)
    (a12 : PySem.W.nsIn K mainGlobals "leavings_of" = some (some (.ref f12))) (l12 : K.lookup f12 = some ⟨oc12, od12, .func (PySem.W.fnOf "leavings_of" "leavings_of" (defArgs (kst 15)) (defBody (kst 15)) (defScope (kst 15)) .none kV12 dc12 pm12 an12 cd12 ct12), sl12⟩) (c12 : PySem.W.codeIn K cd12 "leavings_of" = true) (k12 : PySem.W.keepIn K (.ref f12) = true)
    (a13 : PySem.W.nsIn K mainGlobals "leavings" = some (some (.ref f13))) (l13 : K.lookup f13 = some ⟨oc13, od13, .func (PySem.W.fnOf "leavings" "leavings" (defArgs (kst 16)) (defBody (kst 16)) (defScope (kst 16)) .none kV13 dc13 pm13 an13 cd13 ct13), sl13⟩) (c13 : PySem.W.codeIn K cd13 "leavings" = true) (k13 : PySem.W.keepIn K (.ref f13) = true)
    (a14 : PySem.W.nsIn K mainGlobals "waits" = some (some (.ref f14))) (l14 : K.lookup f14 = some ⟨oc14, od14, .func (PySem.W.fnOf "waits" "waits" (defArgs (kst 18)) (defBody (kst 18)) (defScope (kst 18)) .none kV14 dc14 pm14 an14 cd14 ct14), sl14⟩) (c14 : PySem.W.codeIn K cd14 "waits" = true) (k14 : PySem.W.keepIn K (.ref f14) = true)
    (a15 : PySem.W.nsIn K mainGlobals "last" = some (some (.ref f15))) (l15 : K.lookup f15 = some ⟨oc15, od15, .func (PySem.W.fnOf "last" "last" (defArgs (kst 17)) (defBody (kst 17)) (defScope (kst 17)) .none kV15 dc15 pm15 an15 cd15 ct15), sl15⟩) (c15 : PySem.W.codeIn K cd15 "last" = true) (k15 : PySem.W.keepIn K (.ref f15) = true)
    (a16 : PySem.W.nsIn K mainGlobals "_law_over" = some (some (.ref f16))) (l16 : K.lookup f16 = some ⟨oc16, od16, .func (PySem.W.fnOf "_law_over" "_law_over" (defArgs (kst 24)) (defBody (kst 24)) (defScope (kst 24)) .none kV16 dc16 pm16 an16 cd16 ct16), sl16⟩) (c16 : PySem.W.codeIn K cd16 "_law_over" = true) (k16 : PySem.W.keepIn K (.ref f16) = true)
    (a17 : PySem.W.nsIn K mainGlobals "_law_late_right" = some (some (.ref f17))) (l17 : K.lookup f17 = some ⟨oc17, od17, .func (PySem.W.fnOf "_law_late_right" "_law_late_right" (defArgs (kst 25)) (defBody (kst 25)) (defScope (kst 25)) .none kV17 dc17 pm17 an17 cd17 ct17), sl17⟩) (c17 : PySem.W.codeIn K cd17 "_law_late_right" = true) (k17 : PySem.W.keepIn K (.ref f17) = true)
    (a18 : PySem.W.nsIn K mainGlobals "_law_more_right" = some (some (.ref f18))) (l18 : K.lookup f18 = some ⟨oc18, od18, .func (PySem.W.fnOf "_law_more_right" "_law_more_right" (defArgs (kst 26)) (defBody (kst 26)) (defScope (kst 26)) .none kV18 dc18 pm18 an18 cd18 ct18), sl18⟩) (c18 : PySem.W.codeIn K cd18 "_law_more_right" = true) (k18 : PySem.W.keepIn K (.ref f18) = true)
    (a19 : PySem.W.nsIn K mainGlobals "law" = some (some (.ref f19))) (l19 : K.lookup f19 = some ⟨oc19, od19, .func (PySem.W.fnOf "law" "law" (defArgs (kst 27)) (defBody (kst 27)) (defScope (kst 27)) .none kV19 dc19 pm19 an19 cd19 ct19), sl19⟩) (c19 : PySem.W.codeIn K cd19 "law" = true) (k19 : PySem.W.keepIn K (.ref f19) = true)
    (z_abs : PySem.W.nsIn K mainGlobals "abs" = some none)
    (z_all : PySem.W.nsIn K mainGlobals "all" = some none)
    (z_bool : PySem.W.nsIn K mainGlobals "bool" = some none)
    (z_int : PySem.W.nsIn K mainGlobals "int" = some none)
    (z_isinstance : PySem.W.nsIn K mainGlobals "isinstance" = some none)
    (z_len : PySem.W.nsIn K mainGlobals "len" = some none)
    (z_list : PySem.W.nsIn K mainGlobals "list" = some none)
    (z_max : PySem.W.nsIn K mainGlobals "max" = some none)
    (z_min : PySem.W.nsIn K mainGlobals "min" = some none)
    (z_range : PySem.W.nsIn K mainGlobals "range" = some none)
    (z_tuple : PySem.W.nsIn K mainGlobals "tuple" = some none)
    (z_zip : PySem.W.nsIn K mainGlobals "zip" = some none)
    (q_MOST_COUNTERS : PySem.W.nsIn K mainGlobals "MOST_COUNTERS" = some (some (.int 8 t_MOST_COUNTERS)))
    (q_MOST_CUSTOMERS : PySem.W.nsIn K mainGlobals "MOST_CUSTOMERS" = some (some (.int 8 t_MOST_CUSTOMERS))) :
    ∃ fd : FuncData, (∀ (s : Shared) (u : Value), BindsTo s fd ⟨[u], []⟩ [("script", u)]) ∧ ∀ base : Heap, K.In base → base.Ns mainGlobals mg → FnG P w K mg base 8 fa fd ["script"] (spF K mg f_law) := by
  have e := hfa.symm.trans (PySem.W.mg_of X G a19)
  cases e
  have T : Txt K mg := ⟨⟨f0, _, PySem.W.mg_of X G a0, fun_mk (st := kst 20) l0 c0 k0⟩, ⟨f1, _, PySem.W.mg_of X G a1, fun_mk (st := kst 21) l1 c1 k1⟩, ⟨f2, _, PySem.W.mg_of X G a2, fun_mk (st := kst 22) l2 c2 k2⟩, ⟨f3, _, PySem.W.mg_of X G a3, fun_mk (st := kst 23) l3 c3 k3⟩, ⟨f4, _, PySem.W.mg_of X G a4, fun_mk (st := kst 7) l4 c4 k4⟩, ⟨f5, _, PySem.W.mg_of X G a5, fun_mk (st := kst 8) l5 c5 k5⟩, ⟨f6, _, PySem.W.mg_of X G a6, fun_mk (st := kst 9) l6 c6 k6⟩, ⟨f7, _, PySem.W.mg_of X G a7, fun_mk (st := kst 10) l7 c7 k7⟩, ⟨f8, _, PySem.W.mg_of X G a8, fun_mk (st := kst 12) l8 c8 k8⟩, ⟨f9, _, PySem.W.mg_of X G a9, fun_mk (st := kst 11) l9 c9 k9⟩, ⟨f10, _, PySem.W.mg_of X G a10, fun_mk (st := kst 13) l10 c10 k10⟩, ⟨f11, _, PySem.W.mg_of X G a11, fun_mk (st := kst 14) l11 c11 k11⟩, ⟨f12, _, PySem.W.mg_of X G a12, fun_mk (st := kst 15) l12 c12 k12⟩, ⟨f13, _, PySem.W.mg_of X G a13, fun_mk (st := kst 16) l13 c13 k13⟩, ⟨f14, _, PySem.W.mg_of X G a14, fun_mk (st := kst 18) l14 c14 k14⟩, ⟨f15, _, PySem.W.mg_of X G a15, fun_mk (st := kst 17) l15 c15 k15⟩, ⟨f16, _, PySem.W.mg_of X G a16, fun_mk (st := kst 24) l16 c16 k16⟩, ⟨f17, _, PySem.W.mg_of X G a17, fun_mk (st := kst 25) l17 c17 k17⟩, ⟨f18, _, PySem.W.mg_of X G a18, fun_mk (st := kst 26) l18 c18 k18⟩, PySem.W.mg_none_of X G z_abs, PySem.W.mg_none_of X G z_all, PySem.W.mg_none_of X G z_bool, PySem.W.mg_none_of X G z_int, PySem.W.mg_none_of X G z_isinstance, PySem.W.mg_none_of X G z_len, PySem.W.mg_none_of X G z_list, PySem.W.mg_none_of X G z_max, PySem.W.mg_none_of X G z_min, PySem.W.mg_none_of X G z_range, PySem.W.mg_none_of X G z_tuple, PySem.W.mg_none_of X G z_zip, ⟨t_MOST_COUNTERS, PySem.W.mg_of X G q_MOST_COUNTERS⟩, ⟨t_MOST_CUSTOMERS, PySem.W.mg_of X G q_MOST_CUSTOMERS⟩⟩
  exact ⟨_, fun s v => .of_eq rfl, fun base _ _ => ok_law T (fun_mk (st := kst 27) l19 c19 k19)⟩
end Zm
open PySem PySem.W PyProof.Rows
set_option maxHeartbeats 0 in
theorem PySem.Challenge.cw_movedminutes_k05_whole_later_and_togethe_holds : PySem.Challenge.rw_movedminutes_k05_whole_later_and_togethe.Holds := by
  w_on; o_law; k_head; (case hw => w_witness2)
  k_fill
  refine Zm.walk_ofG (l := PySem.Challenge.rw_movedminutes_k05_whole_later_and_togethe) (n := 63) (k := 8) (x := "script") (m := Zm.f_law) rfl (by decide) rfl ⟨rfl, by decide, by decide⟩ (fun w h Y => PySem.W.kIn_of Y) ?F Zm.law_good
  case F =>
    intro w mg fa h KX G hmg
    refine' Zm.all_mk KX G hmg ?a0 ?l0 ?c0 ?k0 ?a1 ?l1 ?c1 ?k1 ?a2 ?l2 ?c2 ?k2 ?a3 ?l3 ?c3 ?k3 ?a4 ?l4 ?c4 ?k4 ?a5 ?l5 ?c5 ?k5 ?a6 ?l6 ?c6 ?k6 ?a7 ?l7 ?c7 ?k7 ?a8 ?l8 ?c8 ?k8 ?a9 ?l9 ?c9 ?k9 ?a10 ?l10 ?c10 ?k10 ?a11 ?l11 ?c11 ?k11 ?a12 ?l12 ?c12 ?k12 ?a13 ?l13 ?c13 ?k13 ?a14 ?l14 ?c14 ?k14 ?a15 ?l15 ?c15 ?k15 ?a16 ?l16 ?c16 ?k16 ?a17 ?l17 ?c17 ?k17 ?a18 ?l18 ?c18 ?k18 ?a19 ?l19 ?c19 ?k19 ?z_abs ?z_all ?z_bool ?z_int ?z_isinstance ?z_len ?z_list ?z_max ?z_min ?z_range ?z_tuple ?z_zip ?q_MOST_COUNTERS ?q_MOST_CUSTOMERS
    (case a0 => k_is)
    (case l0 => k_is)
    (case c0 => k_is)
    (case k0 => k_is)
    (case a1 => k_is)
    (case l1 => k_is)
    (case c1 => k_is)
    (case k1 => k_is)
    (case a2 => k_is)
    (case l2 => k_is)
    (case c2 => k_is)
    (case k2 => k_is)
    (case a3 => k_is)
    (case l3 => k_is)
    (case c3 => k_is)
    (case k3 => k_is)
    (case a4 => k_is)
    (case l4 => k_is)
    (case c4 => k_is)
    (case k4 => k_is)
    (case a5 => k_is)
    (case l5 => k_is)
    (case c5 => k_is)
    (case k5 => k_is)
    (case a6 => k_is)
    (case l6 => k_is)
    (case c6 => k_is)
    (case k6 => k_is)
    (case a7 => k_is)
    (case l7 => k_is)
    (case c7 => k_is)
    (case k7 => k_is)
    (case a8 => k_is)
    (case l8 => k_is)
    (case c8 => k_is)
    (case k8 => k_is)
    (case a9 => k_is)
    (case l9 => k_is)
    (case c9 => k_is)
    (case k9 => k_is)
    (case a10 => k_is)
    (case l10 => k_is)
    (case c10 => k_is)
    (case k10 => k_is)
    (case a11 => k_is)
    (case l11 => k_is)
    (case c11 => k_is)
    (case k11 => k_is)
    (case a12 => k_is)
    (case l12 => k_is)
    (case c12 => k_is)
    (case k12 => k_is)
    (case a13 => k_is)
    (case l13 => k_is)
    (case c13 => k_is)
    (case k13 => k_is)
    (case a14 => k_is)
    (case l14 => k_is)
    (case c14 => k_is)
    (case k14 => k_is)
    (case a15 => k_is)
    (case l15 => k_is)
    (case c15 => k_is)
    (case k15 => k_is)
    (case a16 => k_is)
    (case l16 => k_is)
    (case c16 => k_is)
    (case k16 => k_is)
    (case a17 => k_is)
    (case l17 => k_is)
    (case c17 => k_is)
    (case k17 => k_is)
    (case a18 => k_is)
    (case l18 => k_is)
    (case c18 => k_is)
    (case k18 => k_is)
    (case a19 => k_is)
    (case l19 => k_is)
    (case c19 => k_is)
    (case k19 => k_is)
    (case z_abs => k_is)
    (case z_all => k_is)
    (case z_bool => k_is)
    (case z_int => k_is)
    (case z_isinstance => k_is)
    (case z_len => k_is)
    (case z_list => k_is)
    (case z_max => k_is)
    (case z_min => k_is)
    (case z_range => k_is)
    (case z_tuple => k_is)
    (case z_zip => k_is)
    (case q_MOST_COUNTERS => k_is)
    (case q_MOST_CUSTOMERS => k_is)
