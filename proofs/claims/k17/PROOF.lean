import PyProof.Rows.All
import HandS.ForMost
import HandS.ForExc
import HandS.Zip
import HandS.Wide
import HandS.Walk
import HandS.Rev
import KE.GoesNew
import KE.GoesMore
import KE.GoesZip
import KE.GoesEnum
import HandS.ExcCtx
import HandS.HotCalls
import HandS.ExcIs
import HandS.TupAny
import HandS.TupMul
import HandS.TupLe
import HandS.IsInst
import HandS.SortInts
import PyProof.Rows.RuleB_pow
import HandS.Style
import PyProof.CallFns
import KE.DataMinMax
import PyProof.SumAny
import HandS.Deep
import HandS.Small
import HandS.Iter
import PyProof.ListIndex
import KE.KEqDict
import PyProof.DictFindH
import PyProof.DictRoadsH
import HandS.Conv
import HandS.More
import HandS.Flt
import PyProof.ListNew
import HandS.SortOrd
import HandS.DictTup
import KE.KDictCopyH
import HandS.SortKw
import KE.SortData
import HandS.Comp
import PyProof.TupleIter
import HandS.Text
import KE.KIndexOf
import PyProof.ReprRoads
import Wide.All
import OpenK.AllK
import Wide.FinOn
import PySem.Challenge.RW_movedminutes_k17_moves_refused
set_option Elab.async false
set_option linter.all false
set_option maxRecDepth 100000
set_option autoImplicit false
/-! ZI: zip and enumerate over rows of either kind (a tuple: true, a list: false). -/
namespace Zi
open PySem PySem.Spec PyProof.Rows L2
def Sq (K : PySem.W.Frag) (b : Bool) (H : Hp) (p : Addr) (xs : List V) : Prop := match b with
  | true => SqT K H p xs
  | false => SqL K H p xs
def SeqAt (b : Bool) (h : Heap) (p : Addr) (its : Array Value) : Prop := match b with
  | true => h.IsTuple p its
  | false => h.IsList p its
def IterAt (b : Bool) (h : Heap) (it p : Addr) (i : Nat) : Prop := match b with
  | true => h.IsTupleIter it p i
  | false => h.IsListIter it p i
def itObj (b : Bool) (p : Addr) : Obj := match b with
  | true => { cls := .type "tuple_iterator", data := .fields #[.ref p, .int 0 0] }
  | false => { cls := .type "list_iterator", data := .fields #[.ref p, .int 0 0] }
section
variable {X : Cx} {pins : List (Addr × Obj)} {σ : L2.St} {H : Hp} {s : Shared} {b : Bool} {p : Addr} {xs ys : List V}
theorem seq_of (I : Inv X pins σ H s) (h : Sq X.K b H p xs) : ∃ its : List Value, Vals xs its ∧ SeqAt b s.heap p its.toArray ∧ p < s.heap.objs.size := by
  cases b with
  | true => obtain ⟨its, r, q, _⟩ := I.tuple h; exact ⟨its, r, q, q.lt⟩
  | false => obtain ⟨its, r, q, _⟩ := I.list h; exact ⟨its, r, q.isList, q.lt⟩
theorem seq_inj (I : Inv X pins σ H s) (h : Sq X.K b H p xs) (h' : Sq X.K b H p ys) : xs = ys := by
  cases b with
  | true => exact I.tuple_inj h h'
  | false => exact I.list_inj h h'
theorem begins (b : Bool) (p : Addr) (its : Array Value) : Begins (.ref p) (itObj b p) (fun h => SeqAt b h p its) := by
  cases b with
  | true => exact begins_tuple p its
  | false => exact begins_list p its
theorem itObj_at {h : Heap} {it : Addr} (e : h.get? it = some (itObj b p)) : IterAt b h it p 0 := by
  cases b with
  | true => exact ⟨_, e, rfl, rfl⟩
  | false => exact ⟨_, e, rfl, rfl⟩
theorem draws {prog : Program} {w : World} {A : Around} (hh : A.handled = none) (b : Bool) (it l : Addr) (hne : l ≠ it) (items : Array Value) :
    Draws prog w A it [it, l] items.size (fun i v => items[i]? = some v) (fun i h => IterAt b h it l i ∧ SeqAt b h l items) := by
  cases b with
  | true => exact Draws.tuple hh it l hne items
  | false => exact Draws.list hh it l hne items
theorem IterAt.keep {h h' : Heap} {it l : Addr} {i : Nat} (x : IterAt b h it l i) (k : ∀ o, h.get? it = some o → h'.get? it = some o) : IterAt b h' it l i := by
  cases b with
  | true => exact Heap.IsTupleIter.at (show h.IsTupleIter it l i from x) k
  | false => exact Heap.IsListIter.at (show h.IsListIter it l i from x) k
theorem IterAt.obj {h : Heap} {it l : Addr} {i : Nat} (x : IterAt b h it l i) : ∃ o, h.get? it = some o ∧ ∀ v, o.data ≠ .cell v := by
  cases b with
  | true => obtain ⟨o, e, _, d⟩ := x; exact ⟨o, e, fun v q => by rw [d] at q; cases q⟩
  | false => obtain ⟨o, e, _, d⟩ := x; exact ⟨o, e, fun v q => by rw [d] at q; cases q⟩
end
/-! ### two -/
def It2 (K : PySem.W.Frag) (b1 b2 : Bool) (p q : Addr) : It :=
  ⟨fun i H => ∃ (xs ys : List V) (x y : V), Sq K b1 H p xs ∧ Sq K b2 H q ys ∧ xs[i]? = some x ∧ ys[i]? = some y,
   fun i H v H' => ∃ T x y, v = .ref T ∧ H T = none ∧ H' = upd H T (.tup [x, y]) ∧ (∀ xs, Sq K b1 H p xs → xs[i]? = some x) ∧ ∀ ys, Sq K b2 H q ys → ys[i]? = some y,
   fun i H => ∃ xs ys : List V, Sq K b1 H p xs ∧ Sq K b2 H q ys ∧ i ≤ xs.length ∧ i ≤ ys.length ∧ (i = xs.length ∨ i = ys.length)⟩
theorem turn2 {P : Program} {w : World} {K : PySem.W.Frag} {elts : List Expr} {kk : Nat} {tpos : Pos} {b1 b2 : Bool} {p q z TI TO i1 i2 : Addr} (S : ZipSep2 z TI TO i1 i2 [i1, p] [i2, q]) (hp : p ≠ i1) (hq : q ≠ i2) :
    Turn P w K (.Tuple elts kk tpos) (It2 K b1 b2 p q) [z, TI, TO, i1, i2] z
      (fun i h => IsZip h z TI TO .none ∧ IsTupOf2 h TI (.ref i1) (.ref i2) ∧ (∃ x y, IsTupOf2 h TO x y) ∧ IterAt b1 h i1 p i ∧ IterAt b2 h i2 q i) where
  mem := by simp
  obj := by
    rintro i h ⟨hz, hT, ⟨x, y, hO⟩, h1, h2⟩ c hc
    simp only [List.mem_cons, List.not_mem_nil, or_false] at hc
    rcases hc with rfl | rfl | rfl | rfl | rfl
    · exact ⟨_, hz, fun v q => nomatch q⟩
    · exact ⟨_, hT, fun v q => nomatch q⟩
    · exact ⟨_, hO, fun v q => nomatch q⟩
    · exact h1.obj
    · exact h2.obj
  keep := by
    rintro i h h' ⟨hz, hT, ⟨x, y, hO⟩, h1, h2⟩ k
    exact ⟨k z (by simp) _ hz, k TI (by simp) _ hT, ⟨x, y, k TO (by simp) _ hO⟩, h1.keep fun o e => k i1 (by simp) o e, h2.keep fun o e => k i2 (by simp) o e⟩
  item := by
    intro X hP hw hK hc i pins s σ H E I hf st hg
    subst hP hw hK
    obtain ⟨hz, hT, ⟨x0, y0, hO⟩, h1, h2⟩ := st
    obtain ⟨xs, ys, x, y, sx, sy, ex, ey⟩ := hg
    obtain ⟨its, rv, a1, _⟩ := seq_of I sx
    obtain ⟨jts, rw', a2, _⟩ := seq_of I sy
    obtain ⟨u, hu, ru⟩ := rv.get ex
    obtain ⟨v, hv, rv2⟩ := rw'.get ey
    have hh := I.ok.hd hc
    have hzl : z < s.heap.objs.size := Heap.lt_size hz
    have all : ∀ c, c ∈ [z, TI, TO, i1, i2] → c < s.heap.objs.size := fun c hcm => by
      simp only [List.mem_cons, List.not_mem_nil, or_false] at hcm
      rcases hcm with rfl | rfl | rfl | rfl | rfl
      · exact hzl
      · exact Heap.lt_size hT
      · exact Heap.lt_size hO
      · obtain ⟨o, e, _⟩ := h1.obj; exact Heap.lt_size e
      · obtain ⟨o, e, _⟩ := h2.obj; exact Heap.lt_size e
    refine wpAny_pyNext_zipD2_item S (draws (by exact hh) b1 i1 p hp its.toArray) (draws (by exact hh) b2 i2 q hq jts.toArray) hz hT hO ⟨h1, a1⟩ ⟨h2, a2⟩
      (by simpa using (List.getElem?_eq_some_iff.mp hu).1) (by simpa using (List.getElem?_eq_some_iff.mp hv).1) ?_
    intro x1 x2 h' tk e1 e2 hz' hO' st1 st2 hN hsz hk
    have e1 : x1 = u := by have := e1; simp [hu] at this; exact this.symm
    have e2 : x2 = v := by have := e2; simp [hv] at this; exact this.symm
    subst e1 e2
    refine ⟨_, rfl, wpAny_letOwnedTupleGo_zip (s := { s with heap := h', toks := tk }) hz' fun h'' hz'' sb => ?_⟩
    have hN2 : h''.get? s.heap.objs.size = some { cls := .type "tuple", data := .seq #[x1, x2] } := (sb.2 _ (Nat.ne_of_gt hzl)).trans hN
    have new : ObjOk X.prog X.w (upd H s.heap.objs.size (.tup [x, y])) h'' s.heap.objs.size (.tup [x, y]) :=
      ⟨by show 2 ≤ sizeLine; decide, [x1, x2], .cons ru (.cons rv2 .nil), ⟨_, hN2, rfl, _, rfl⟩⟩
    have I1 : Inv X pins σ (upd H s.heap.objs.size (.tup [x, y])) { s with heap := h'', toks := tk } := by
      refine I.turnedNew (ch := [z, TI, TO, i1, i2]) (fun c o hb e => ?_) hf (Nat.le_refl _) new
      simp only [List.mem_cons, List.not_mem_nil, or_false, not_or] at hb
      exact (sb.2 c hb.1).trans (hk c o hb.1 hb.2.2.1 hb.2.2.2.1 hb.2.2.2.2 e)
    refine ⟨.ref s.heap.objs.size, _, I1, rfl, ⟨_, x, y, rfl, I.hok.fresh (Nat.le_refl _), rfl, fun l hl => by rw [seq_inj I hl sx]; exact ex, fun l hl => by rw [seq_inj I hl sy]; exact ey⟩, ⟨hz'', ?_, ⟨x1, x2, ?_⟩, ?_, ?_⟩, fun c hcm => ?_⟩
    · exact (sb.2 _ S.TIz).trans (hk _ _ S.TIz S.TITO S.TIi1 S.TIi2 hT)
    · exact (sb.2 _ S.TOz).trans hO'
    · exact st1.1.keep fun o e => (sb.2 _ S.zi1.symm).trans e
    · exact st2.1.keep fun o e => (sb.2 _ S.zi2.symm).trans e
    · rw [upd_ne (Nat.ne_of_lt (all c hcm))]
      exact (hf c hcm).1
  done := by
    intro X hP hw hK hc i pins s σ H E I hf st hg
    subst hP hw hK
    obtain ⟨hz, hT, ⟨x0, y0, hO⟩, h1, h2⟩ := st
    obtain ⟨xs, ys, sx, sy, l1, l2, hend⟩ := hg
    obtain ⟨its, rv, a1, _⟩ := seq_of I sx
    obtain ⟨jts, rw', a2, _⟩ := seq_of I sy
    have hh := I.ok.hd hc
    have m1 := rv.length
    have m2 := rw'.length
    refine wpAny_pyNext_zipD2_end S (draws (by exact hh) b1 i1 p hp its.toArray) (draws (by exact hh) b2 i2 q hq jts.toArray) hz hT hO ⟨h1, a1⟩ ⟨h2, a2⟩
      (by simp; omega) (by simp; omega) (by simp; omega) fun h' tk hk => ⟨rfl, ?_⟩
    refine I.turnedL (ch := [z, TI, TO, i1, i2]) (fun c o hb e => ?_) hf
    simp only [List.mem_cons, List.not_mem_nil, or_false, not_or] at hb
    exact hk c o hb.1 hb.2.2.1 hb.2.2.2.1 hb.2.2.2.2 e
  self := fun A i s Q E st h => wpAny_pyIter_zip st.1 h
def iZ2 (K : PySem.W.Frag) (ta : TA) : TI := fun σ H R => ta σ H fun vs H1 => ∃ b1 b2 p q xs ys, vs = [.ref p, .ref q] ∧ Sq K b1 H1 p xs ∧ Sq K b2 H1 q ys ∧ R (It2 K b1 b2 p q) H1
theorem pi_z2 {X : Cx} {e e2 : Expr} {ta : TA} {ps pos tpos : Pos} {elts : List Expr} {kk : Nat} (hm : X.mg "zip" = none) (ha : PA X [e, e2] ta) (hg : Gl X "zip" := by rfl)
    (hs : starEach [e, e2] X.env = (false, eval e X.env) :: starEach [e2] X.env := by rfl) (hpl : (backTo pos (starEach [e2] X.env)).any (·.1) = false := by rfl) :
    PI X (.Tuple elts kk tpos) (.Call (.Name "zip" ps) [e, e2] [] pos) (iZ2 X.K ta) := by
  constructor
  intro pins s σ H R I h
  refine Call_ (ld_blt I hg hm PyProof.Rows.boot_zip (PyProof.Rows.callWith_type1 (thn (ha.run pos pins s σ H _ I h) ?_) hs hpl))
  rintro us s1 ⟨vs, H1, I1, r1, b1, b2, p, q, xs, ys, ex, sx, sy, k⟩
  subst ex
  match us, r1 with
  | [_, _], .cons rfl (.cons rfl .nil) =>
    obtain ⟨its, rv, a1, lp⟩ := seq_of I1 sx
    obtain ⟨jts, rw', a2, lq⟩ := seq_of I1 sy
    refine zip_begins2 (begins b1 p its.toArray) (begins b2 q jts.toArray) a1 a2 ?_
    intro h' hz hT hO o1 o2 hsz hk
    refine wpAny_pyIter_zip hz ?_
    have I2 : Inv X pins σ H1 { s1 with heap := h' } := I1.kept (t' := s1.toks) hk
    have sep := zip_sep2 (N := s1.heap.objs.size) (fp1 := [p]) (fp2 := [q]) (by simpa using lp) (by simpa using lq)
    refine ⟨s1.heap.objs.size + 4, [s1.heap.objs.size + 4, s1.heap.objs.size + 2, s1.heap.objs.size + 3, s1.heap.objs.size, s1.heap.objs.size + 1], _, _, H1, rfl, I2, turn2 (b1 := b1) (b2 := b2) sep (Nat.ne_of_lt lp) (Nat.ne_of_lt (Nat.lt_succ_of_lt lq)), ⟨hz, hT, ⟨_, _, hO⟩, itObj_at o1, itObj_at o2⟩, ?_, k⟩
    intro c hcm
    have hle : s1.heap.objs.size ≤ c := by
      simp only [List.mem_cons, List.not_mem_nil, or_false] at hcm
      rcases hcm with rfl | rfl | rfl | rfl | rfl <;> first | exact Nat.le_refl _ | exact Nat.le_add_right _ _
    exact I1.fpOk hle (I1.hok.fresh hle)
end Zi
set_option Elab.async false
set_option linter.all false
set_option maxRecDepth 100000
set_option autoImplicit false
/-! ZI2: zip of three, enumerate of either kind. -/
namespace Zi
open PySem PySem.Spec PyProof.Rows L2
/-! ### enumerate -/
end Zi
set_option Elab.async false
set_option linter.all false
set_option maxRecDepth 100000
set_option autoImplicit false
/-! ZI3: zip of two rows, its pairs kept by a name. -/
namespace Zi
open PySem PySem.Spec PyProof.Rows L2
section
variable {prog : Program} {w : World} {A : Around} {E : Value → Shared → Prop} {s : Shared} {z tI tO i1 i2 : Addr} {fp1 fp2 : List Addr} {n1 n2 i : Nat} {P1 P2 : Nat → Value → Prop} {St1 St2 : Nat → Heap → Prop} {a1 a2 u : Value} {b : Bool}
end
end Zi
namespace Zi
open PySem PySem.Spec PyProof.Rows L2
section
variable {prog : Program} {w : World} {A : Around} {E : Value → Shared → Prop} {s : Shared} {z tI tO i1 i2 : Addr} {fp1 fp2 : List Addr} {n1 n2 i : Nat} {P1 P2 : Nat → Value → Prop} {St1 St2 : Nat → Heap → Prop} {a1 a2 u : Value} {b : Bool}
end
end Zi
set_option Elab.async false
set_option linter.all false
set_option maxRecDepth 100000
/-! Z0: values as trees, how they stand in the abstract heap, who owns what. -/
namespace Zm
open PySem PySem.Spec PyProof.Rows L2
abbrev Cnt := Addr → Nat
def cp (p : Addr) : Cnt := fun x => if x = p then 1 else 0
theorem cp_same {p : Addr} : cp p p = 1 := if_pos rfl
def c0 : Cnt := fun _ => 0
theorem cp_ne {p x : Addr} (h : x ≠ p) : cp p x = 0 := if_neg h
/-- values as trees. lst true: nobody else holds this list; lst false: it is never changed from here on; box n: the n-th list of the store -/
inductive D where
  | non | bl (b : Bool) | int (i : Int) | str (x : Str)
  | tup (xs : List D) | lst (o : Bool) (xs : List D) | dic (o t : Bool) (ks vs : List D)
  | box (n : Nat) | fn (x : Str) | ty (x : String) | ro (ns : List Int)
  | exc (c : Str) (m : Option Int)
  deriving Inhabited
abbrev Sto := List (List D)
abbrev Env := List (Option D)
mutual
/-- all lists within are frozen -/
@[simp] def fz : D → D
  | .tup xs => .tup (fzs xs)
  | .lst _ xs => .lst false (fzs xs)
  | .dic _ t ks vs => .dic false t ks vs
  | .non => .non | .bl b => .bl b | .int i => .int i | .str x => .str x | .box n => .box n | .fn x => .fn x | .ty x => .ty x | .exc c m => .exc c m | .ro ns => .ro ns
@[simp] def fzs : List D → List D
  | [] => []
  | x :: xs => fz x :: fzs xs
end
mutual
/-- no frozen list within -/
@[simp] def noF : D → Bool
  | .tup xs => noFs xs
  | .lst o xs => o && noFs xs
  | .dic o _ _ _ => o
  | .non => true | .bl _ => true | .int _ => true | .str _ => true | .box _ => true | .fn _ => true | .ty _ => true | .exc _ _ => true | .ro _ => true
@[simp] def noFs : List D → Bool
  | [] => true
  | x :: xs => noF x && noFs xs
end
mutual
/-- no list at all within (but boxes) -/
@[simp] def plain : D → Bool
  | .tup xs => plains xs
  | .lst _ _ => false
  | .dic _ _ _ _ => false
  | .non => true | .bl _ => true | .int _ => true | .str _ => true | .box _ => true | .fn _ => true | .ty _ => true | .exc _ _ => true | .ro _ => true
@[simp] def plains : List D → Bool
  | [] => true
  | x :: xs => plain x && plains xs
end
mutual
def pd : D → Option PyData
  | .non => some .none
  | .bl b => some (.bool b)
  | .int i => some (.int i)
  | .str x => some (.str x)
  | .tup xs => (pds xs).map .tuple
  | .lst _ xs => (pds xs).map .list
  | .ro ns => some (.list (ns.map .int))
  | .dic _ _ _ _ => none | .box _ => none | .fn _ => none | .ty _ => none | .exc _ _ => none
def pds : List D → Option (List PyData)
  | [] => some []
  | x :: xs => match pd x, pds xs with
    | some y, some ys => some (y :: ys)
    | _, _ => none
end
theorem fzs_eq : ∀ xs : List D, fzs xs = xs.map fz
  | [] => rfl
  | x :: xs => by rw [fzs, fzs_eq xs]; rfl
theorem noFs_iff : ∀ {xs : List D}, noFs xs = true ↔ ∀ x ∈ xs, noF x = true
  | [] => by simp [noFs]
  | x :: xs => by simp [noFs, noFs_iff (xs := xs)]
theorem plains_iff : ∀ {xs : List D}, plains xs = true ↔ ∀ x ∈ xs, plain x = true
  | [] => by simp [plains]
  | x :: xs => by simp [plains, plains_iff (xs := xs)]
section
variable (K : PySem.W.Frag) (mg : Str → Option Value) (H : Hp) (ρ : List Addr)
/-- a list of the written part -/
def SqK (K : PySem.W.Frag) (a : Addr) (xs : List V) : Prop :=
  ∃ (o : Obj) (its : Array Value) (n : Nat), K.lookup a = some o ∧ o.cls = .type "list" ∧ o.dict = none ∧ o.data = .seq its n ∧ its.size ≤ sizeLine ∧ Vals xs its.toList
/-- a list that is read only: known to the object, or of the written part -/
def SqR (K : PySem.W.Frag) (H : Hp) (a : Addr) (xs : List V) : Prop := (∃ o, H a = some (.frz o (.lst xs))) ∨ SqK K a xs
def kD : Key → D
  | .inl i => .int i
  | .inr z => .str z
def ktD (k : List Key) : D := .tup (k.map kD)
/-- a dict; t: its keys are tuples -/
def DicV (t : Bool) (ks : List D) (ws : List V) (u : HO) : Prop := match t with
  | false => ∃ kvs : List (Key × V), u = .dK kvs ∧ ks = kvs.map (fun z => kD z.1) ∧ ws = kvs.map (·.2)
  | true => ∃ kvs : List (List Key × V), u = .dT kvs ∧ ks = kvs.map (fun z => ktD z.1) ∧ ws = kvs.map (·.2)
/-- .. that may be written; .. that is read (locked, may be) -/
def DicAt (H : Hp) (t : Bool) (p : Addr) (ks : List D) (ws : List V) : Prop := ∃ u, H p = some u ∧ DicV t ks ws u
def DicRd (H : Hp) (t : Bool) (p : Addr) (ks : List D) (ws : List V) : Prop := ∃ u, Rd H p u ∧ DicV t ks ws u
/-- an exception's object, of the class at C -/
def ExO (p C : Addr) (h : Heap) : Prop := ∃ (o : Obj) (vs : Array Value), h.get? p = some o ∧ o.cls = .ref C ∧ o.dict = none ∧ o.data = .fields vs
/-- an exception: one that is handled (by its address), one that is kept -/
def XcAt (mg : Str → Option Value) (H : Hp) (c : Str) (m : Option Int) (p : Addr) : Prop := match m with
  | some a => (p : Int) = a
  | none => ∃ C, mg c = some (.ref C) ∧ H p = some (.ext (ExO p C))
mutual
/-- the tree d stands at v: A counts the lists that are owned in it, F those that are frozen -/
inductive Rep : D → V → Cnt → Cnt → Prop
  | non {A F : Cnt} : (∀ x, A x = 0) → (∀ x, F x = 0) → Rep .non .non A F
  | bl {b : Bool} {A F : Cnt} : (∀ x, A x = 0) → (∀ x, F x = 0) → Rep (.bl b) (.bl b) A F
  | int {i : Int} {A F : Cnt} : (∀ x, A x = 0) → (∀ x, F x = 0) → Rep (.int i) (.int i) A F
  | str {z : Str} {A F : Cnt} : (∀ x, A x = 0) → (∀ x, F x = 0) → Rep (.str z) (.str z) A F
  | tup {p : Addr} {ds : List D} {vs : List V} {A F : Cnt} : H p = some (.tup vs) → Reps ds vs A F → Rep (.tup ds) (.ref p) A F
  | own {p : Addr} {ds : List D} {vs : List V} {a A F : Cnt} : H p = some (.lst vs) → p ∉ ρ → Reps ds vs a F → (∀ x, A x = cp p x + a x) → Rep (.lst true ds) (.ref p) A F
  | frz {p : Addr} {ds : List D} {vs : List V} {f A F : Cnt} : H p = some (.lst vs) → p ∉ ρ → Reps ds vs A f → (∀ x, F x = cp p x + f x) → Rep (.lst false ds) (.ref p) A F
  | ro {p : Addr} {ns : List Int} {A F : Cnt} : SqR K H p (ns.map V.int) → (∀ x, A x = 0) → (∀ x, F x = 0) → Rep (.ro ns) (.ref p) A F
  | box {n : Nat} {p : Addr} {A F : Cnt} : ρ[n]? = some p → (∀ x, A x = 0) → (∀ x, F x = 0) → Rep (.box n) (.ref p) A F
  | fn {x : Str} {p : Addr} {A F : Cnt} : mg x = some (.ref p) → PySem.W.keepIn K (.ref p) = true → (∀ x, A x = 0) → (∀ x, F x = 0) → Rep (.fn x) (.ref p) A F
  | ty {x : String} {A F : Cnt} : (∀ x, A x = 0) → (∀ x, F x = 0) → Rep (.ty x) (.ty x) A F
  | exc {c : Str} {m : Option Int} {p : Addr} {A F : Cnt} : XcAt mg H c m p → (∀ x, A x = 0) → (∀ x, F x = 0) → Rep (.exc c m) (.ref p) A F
  | dicO {t : Bool} {p : Addr} {ks vs : List D} {ws : List V} {A F : Cnt} : DicAt H t p ks ws → p ∉ ρ → plains vs = true → Reps vs ws c0 c0 → (∀ x, A x = cp p x) → (∀ x, F x = 0) → Rep (.dic true t ks vs) (.ref p) A F
  | dicF {t : Bool} {p : Addr} {ks vs : List D} {ws : List V} {A F : Cnt} : DicRd H t p ks ws → p ∉ ρ → plains vs = true → Reps vs ws c0 c0 → (∀ x, A x = 0) → (∀ x, F x = cp p x) → Rep (.dic false t ks vs) (.ref p) A F
inductive Reps : List D → List V → Cnt → Cnt → Prop
  | nil {A F : Cnt} : (∀ x, A x = 0) → (∀ x, F x = 0) → Reps [] [] A F
  | cons {d : D} {ds : List D} {v : V} {vs : List V} {a f a' f' A F : Cnt} : Rep d v a f → Reps ds vs a' f' → (∀ x, A x = a x + a' x) → (∀ x, F x = f x + f' x) → Reps (d :: ds) (v :: vs) A F
end
end
section
variable {K : PySem.W.Frag} {mg : Str → Option Value} {H H' : Hp} {ρ ρ' : List Addr} {d : D} {ds es : List D} {v : V} {vs ws : List V} {A F A' F' a f : Cnt}
theorem Rep.cong : Rep K mg H ρ d v A F → (∀ x, A' x = A x) → (∀ x, F' x = F x) → Rep K mg H ρ d v A' F' := by
  intro h hA hF
  have : A' = A := funext hA
  have : F' = F := funext hF
  subst_vars; exact h
theorem Reps.cong : Reps K mg H ρ ds vs A F → (∀ x, A' x = A x) → (∀ x, F' x = F x) → Reps K mg H ρ ds vs A' F' := by
  intro h hA hF
  have : A' = A := funext hA
  have : F' = F := funext hF
  subst_vars; exact h
theorem Reps.length : ∀ {ds : List D} {vs : List V} {A F : Cnt}, Reps K mg H ρ ds vs A F → ds.length = vs.length
  | _, _, _, _, .nil _ _ => rfl
  | _, _, _, _, .cons _ t _ _ => congrArg (· + 1) t.length
/-- what may be written: lists, dicts -/
def Mu : HO → Prop
  | .lst _ => True
  | .dK _ => True
  | .dT _ => True
  | _ => False
/-- what may change from H to H': M, and the boxes -/
structure Fr (M : Cnt) (H H' : Hp) (ρ ρ' : List Addr) : Prop where
  keep : ∀ x o, H x = some o → H' x = some o ∨ (Mu o ∧ (x ∈ ρ ∨ 1 ≤ M x))
  there : ∀ x, H' x = none → H x = none
  ext : ∃ r, ρ' = ρ ++ r ∧ ∀ p ∈ r, H p = none
theorem Fr.refl {M : Cnt} : Fr M H H ρ ρ := ⟨fun _ _ h => .inl h, fun _ h => h, [], by simp, by simp⟩
theorem Fr.mono {M M' : Cnt} (h : Fr M H H' ρ ρ') (hm : ∀ x, 1 ≤ M x → 1 ≤ M' x ∨ H x = none) : Fr M' H H' ρ ρ' := by
  refine ⟨fun x o e => ?_, h.there, h.ext⟩
  rcases h.keep x o e with z | ⟨l, z | z⟩
  · exact .inl z
  · exact .inr ⟨l, .inl z⟩
  · rcases hm x z with y | y
    · exact .inr ⟨l, .inr y⟩
    · rw [y] at e; cases e
theorem Fr.trans {M M1 : Cnt} {H1 : Hp} {ρ1 : List Addr} (h : Fr M H H1 ρ ρ1) (h1 : Fr M1 H1 H' ρ1 ρ') (hm : ∀ x, 1 ≤ M1 x → 1 ≤ M x ∨ H x = none) : Fr M H H' ρ ρ' := by
  obtain ⟨r, e, n⟩ := h.ext
  obtain ⟨r1, e1, n1⟩ := h1.ext
  refine ⟨fun x o q => ?_, fun x q => h.there x (h1.there x q), r ++ r1, by rw [e1, e, List.append_assoc], fun p hp => ?_⟩
  · rcases h.keep x o q with z | z
    · rcases h1.keep x o z with y | ⟨l, y⟩
      · exact .inl y
      · rcases y with y | y
        · rw [e] at y
          rcases List.mem_append.mp y with y | y
          · exact .inr ⟨l, .inl y⟩
          · have := n x y
            rw [q] at this; cases this
        · rcases hm x y with y | y
          · exact .inr ⟨l, .inr y⟩
          · rw [q] at y; cases y
    · exact .inr z
  · rcases List.mem_append.mp hp with z | z
    · exact n p z
    · exact h.there p (n1 p z)
theorem Fr.mem (h : Fr A H H' ρ ρ') {x : Addr} (hx : x ∈ ρ) : x ∈ ρ' := by
  obtain ⟨r, e, _⟩ := h.ext
  rw [e]; exact List.mem_append_left _ hx
theorem Fr.get (h : Fr A H H' ρ ρ') {n : Nat} {p : Addr} (hx : ρ[n]? = some p) : ρ'[n]? = some p := by
  obtain ⟨r, e, _⟩ := h.ext
  obtain ⟨hl, _⟩ := List.getElem?_eq_some_iff.mp hx
  rw [e, List.getElem?_append_left hl]; exact hx
theorem Fr.nmem (h : Fr A H H' ρ ρ') {x : Addr} {o : HO} (e : H x = some o) (hx : x ∉ ρ) : x ∉ ρ' := by
  obtain ⟨r, q, n⟩ := h.ext
  rw [q]; intro z
  rcases List.mem_append.mp z with z | z
  · exact hx z
  · have := n x z
    rw [e] at this; cases this
theorem Fr.rdT {M : Cnt} (h : Fr M H H' ρ ρ') {p : Addr} (e : H p = some (.tup vs)) : H' p = some (.tup vs) := by
  rcases h.keep _ _ e with z | ⟨z, _⟩
  · exact z
  · exact z.elim
theorem Fr.rdX {M : Cnt} (h : Fr M H H' ρ ρ') {mg : Str → Option Value} {c : Str} {m : Option Int} {p : Addr} (e : XcAt mg H c m p) : XcAt mg H' c m p := by
  cases m with
  | some a => exact e
  | none =>
    obtain ⟨C, e1, e2⟩ := e
    rcases h.keep _ _ e2 with z | ⟨z, _⟩
    · exact ⟨C, e1, z⟩
    · exact z.elim
theorem Fr.rdR {M : Cnt} (h : Fr M H H' ρ ρ') {p : Addr} (e : SqR K H p vs) : SqR K H' p vs := by
  rcases e with ⟨o, e⟩ | e
  · rcases h.keep _ _ e with z | ⟨z, _⟩
    · exact .inl ⟨o, z⟩
    · exact z.elim
  · exact .inr e
theorem SqR.L {p : Addr} (h : SqR K H p vs) : SqL K H p vs := by
  rcases h with ⟨o, h⟩ | h
  · exact .inl (.inr ⟨o, h⟩)
  · exact .inr h
theorem DicV.mu {t : Bool} {ks : List D} {ws : List V} {u : HO} (h : DicV t ks ws u) : Mu u := by
  cases t with
  | false => obtain ⟨kvs, rfl, _⟩ := h; exact trivial
  | true => obtain ⟨kvs, rfl, _⟩ := h; exact trivial
theorem DicAt.sm {t : Bool} {p : Addr} {ks : List D} {ws : List V} (h : DicAt H t p ks ws) : ∃ o, H p = some o := let ⟨u, e, _⟩ := h; ⟨u, e⟩
theorem DicAt.rd {t : Bool} {p : Addr} {ks : List D} {ws : List V} (h : DicAt H t p ks ws) : DicRd H t p ks ws := let ⟨u, e, q⟩ := h; ⟨u, .inl e, q⟩
theorem DicRd.sm {t : Bool} {p : Addr} {ks : List D} {ws : List V} (h : DicRd H t p ks ws) : ∃ o, H p = some o := by
  obtain ⟨u, e | ⟨o, e⟩, _⟩ := h
  · exact ⟨_, e⟩
  · exact ⟨_, e⟩
theorem Fr.at_ {M : Cnt} (fr : Fr M H H' ρ ρ') {p : Addr} {o : HO} (e : H p = some o) (hp : p ∉ ρ) (hM : M p = 0) : H' p = some o ∧ p ∉ ρ' := by
  refine ⟨?_, fr.nmem e hp⟩
  rcases fr.keep _ _ e with z | ⟨_, z | z⟩
  · exact z
  · exact (hp z).elim
  · omega
theorem DicAt.frm {M : Cnt} (fr : Fr M H H' ρ ρ') {t : Bool} {p : Addr} {ks : List D} {ws : List V} (h : DicAt H t p ks ws) (hp : p ∉ ρ) (hM : M p = 0) : DicAt H' t p ks ws ∧ p ∉ ρ' := by
  obtain ⟨u, e, q⟩ := h
  have := fr.at_ e hp hM
  exact ⟨⟨u, this.1, q⟩, this.2⟩
theorem DicRd.frm {M : Cnt} (fr : Fr M H H' ρ ρ') {t : Bool} {p : Addr} {ks : List D} {ws : List V} (h : DicRd H t p ks ws) (hp : p ∉ ρ) (hM : M p = 0) : DicRd H' t p ks ws ∧ p ∉ ρ' := by
  obtain ⟨u, e | ⟨o, e⟩, q⟩ := h
  · have := fr.at_ e hp hM
    exact ⟨⟨u, .inl this.1, q⟩, this.2⟩
  · have := fr.at_ e hp hM
    exact ⟨⟨u, .inr ⟨o, this.1⟩, q⟩, this.2⟩
mutual
/-- a tree of which nothing is changed stands on -/
theorem Rep.frame {M : Cnt} (fr : Fr M H H' ρ ρ') : ∀ {d : D} {v : V} {A F : Cnt}, Rep K mg H ρ d v A F → (∀ x, 1 ≤ M x → A x = 0 ∧ F x = 0) → Rep K mg H' ρ' d v A F
  | _, _, _, _, .non a f, _ => .non a f
  | _, _, _, _, .bl a f, _ => .bl a f
  | _, _, _, _, .int a f, _ => .int a f
  | _, _, _, _, .str a f, _ => .str a f
  | _, _, _, _, .tup h t, hm => .tup (fr.rdT h) (Reps.frame fr t hm)
  | _, _, A, F, .own (p := p) h hp t e, hm => by
    have hM : M p = 0 := by
      cases z : M p with
      | zero => rfl
      | succ k => have := (hm p (by omega)).1; rw [e p, cp_same] at this; omega
    rcases fr.keep _ _ h with z | ⟨_, z | z⟩
    · exact .own z (fr.nmem h hp) (Reps.frame fr t fun x hx => by have := hm x hx; rw [e x] at this; omega) e
    · exact (hp z).elim
    · omega
  | _, _, A, F, .frz (p := p) h hp t e, hm => by
    have hM : M p = 0 := by
      cases z : M p with
      | zero => rfl
      | succ k => have := (hm p (by omega)).2; rw [e p, cp_same] at this; omega
    rcases fr.keep _ _ h with z | ⟨_, z | z⟩
    · exact .frz z (fr.nmem h hp) (Reps.frame fr t fun x hx => by have := hm x hx; rw [e x] at this; omega) e
    · exact (hp z).elim
    · omega
  | _, _, _, _, .ro h a f, _ => .ro (fr.rdR h) a f
  | _, _, _, _, .box h a f, _ => .box (fr.get h) a f
  | _, _, _, _, .fn h k a f, _ => .fn h k a f
  | _, _, _, _, .ty a f, _ => .ty a f
  | _, _, _, _, .exc h a f, _ => .exc (fr.rdX h) a f
  | _, _, A, F, .dicO (p := p) h hp pl t e1 e2, hm => by
    have hM : M p = 0 := by
      cases z : M p with
      | zero => rfl
      | succ k => have := (hm p (by omega)).1; rw [e1 p, cp_same] at this; omega
    exact .dicO (h.frm fr hp hM).1 (h.frm fr hp hM).2 pl (Reps.frame fr t fun x _ => ⟨rfl, rfl⟩) e1 e2
  | _, _, A, F, .dicF (p := p) h hp pl t e1 e2, hm => by
    have hM : M p = 0 := by
      cases z : M p with
      | zero => rfl
      | succ k => have := (hm p (by omega)).2; rw [e2 p, cp_same] at this; omega
    exact .dicF (h.frm fr hp hM).1 (h.frm fr hp hM).2 pl (Reps.frame fr t fun x _ => ⟨rfl, rfl⟩) e1 e2
theorem Reps.frame {M : Cnt} (fr : Fr M H H' ρ ρ') : ∀ {ds : List D} {vs : List V} {A F : Cnt}, Reps K mg H ρ ds vs A F → (∀ x, 1 ≤ M x → A x = 0 ∧ F x = 0) → Reps K mg H' ρ' ds vs A F
  | _, _, _, _, .nil a f, _ => .nil a f
  | _, _, _, _, .cons h t e1 e2, hm => .cons (Rep.frame fr h fun x hx => by have := hm x hx; rw [e1, e2] at this; omega) (Reps.frame fr t fun x hx => by have := hm x hx; rw [e1, e2] at this; omega) e1 e2
end
mutual
/-- what is counted is there -/
theorem Rep.there : ∀ {d : D} {v : V} {A F : Cnt}, Rep K mg H ρ d v A F → ∀ x, 1 ≤ A x + F x → (∃ o, H x = some o) ∧ x ∉ ρ
  | _, _, _, _, .non a f, x, hx => by rw [a, f] at hx; omega
  | _, _, _, _, .bl a f, x, hx => by rw [a, f] at hx; omega
  | _, _, _, _, .int a f, x, hx => by rw [a, f] at hx; omega
  | _, _, _, _, .str a f, x, hx => by rw [a, f] at hx; omega
  | _, _, _, _, .tup _ t, x, hx => Reps.there t x hx
  | _, _, _, _, .own (p := p) h hp t e, x, hx => by
    by_cases q : x = p
    · subst q; exact ⟨⟨_, h⟩, hp⟩
    · rw [e, cp_ne q] at hx
      exact Reps.there t x (by omega)
  | _, _, _, _, .frz (p := p) h hp t e, x, hx => by
    by_cases q : x = p
    · subst q; exact ⟨⟨_, h⟩, hp⟩
    · rw [e, cp_ne q] at hx
      exact Reps.there t x (by omega)
  | _, _, _, _, .ro _ a f, x, hx => by rw [a, f] at hx; omega
  | _, _, _, _, .box _ a f, x, hx => by rw [a, f] at hx; omega
  | _, _, _, _, .fn _ _ a f, x, hx => by rw [a, f] at hx; omega
  | _, _, _, _, .ty a f, x, hx => by rw [a, f] at hx; omega
  | _, _, _, _, .exc _ a f, x, hx => by rw [a, f] at hx; omega
  | _, _, _, _, .dicO (p := p) h hp pl t e1 e2, x, hx => by
    by_cases q : x = p
    · subst q; exact ⟨h.sm, hp⟩
    · rw [e1, e2, cp_ne q] at hx; omega
  | _, _, _, _, .dicF (p := p) h hp pl t e1 e2, x, hx => by
    by_cases q : x = p
    · subst q; exact ⟨h.sm, hp⟩
    · rw [e1, e2, cp_ne q] at hx; omega
theorem Reps.there : ∀ {ds : List D} {vs : List V} {A F : Cnt}, Reps K mg H ρ ds vs A F → ∀ x, 1 ≤ A x + F x → (∃ o, H x = some o) ∧ x ∉ ρ
  | _, _, _, _, .nil a f, x, hx => by rw [a, f] at hx; omega
  | _, _, _, _, .cons (a := a) (f := f) (a' := a') (f' := f') h t e1 e2, x, hx => by
    rw [e1, e2] at hx
    by_cases z : 1 ≤ a x + f x
    · exact Rep.there h x z
    · exact Reps.there t x (by omega)
end
mutual
/-- frozen: what was owned is no longer -/
theorem Rep.fz : ∀ {d : D} {v : V} {A F : Cnt}, Rep K mg H ρ d v A F → ∃ F', Rep K mg H ρ (fz d) v c0 F' ∧ ∀ x, 1 ≤ F' x → 1 ≤ A x + F x
  | _, _, _, _, .non a f => ⟨c0, .non (fun _ => rfl) (fun _ => rfl), fun x h => by simp [c0] at h⟩
  | _, _, _, _, .bl a f => ⟨c0, .bl (fun _ => rfl) (fun _ => rfl), fun x h => by simp [c0] at h⟩
  | _, _, _, _, .int a f => ⟨c0, .int (fun _ => rfl) (fun _ => rfl), fun x h => by simp [c0] at h⟩
  | _, _, _, _, .str a f => ⟨c0, .str (fun _ => rfl) (fun _ => rfl), fun x h => by simp [c0] at h⟩
  | _, _, _, _, .tup h t => let ⟨F', r, q⟩ := Reps.fz t; ⟨F', .tup h r, q⟩
  | _, _, _, _, .own (p := p) h hp t e => by
    obtain ⟨F', r, q⟩ := Reps.fz t
    refine ⟨fun x => cp p x + F' x, .frz h hp r (fun _ => rfl), fun x hx => ?_⟩
    rw [e]
    have := q x
    by_cases z : 1 ≤ F' x
    · have := q x z; omega
    · have hx : 1 ≤ cp p x + F' x := hx
      omega
  | _, _, _, _, .frz (p := p) h hp t e => by
    obtain ⟨F', r, q⟩ := Reps.fz t
    refine ⟨fun x => cp p x + F' x, .frz h hp r (fun _ => rfl), fun x hx => ?_⟩
    rw [e]
    by_cases z : 1 ≤ F' x
    · have := q x z; omega
    · have hx : 1 ≤ cp p x + F' x := hx
      omega
  | _, _, _, _, .ro h a f => ⟨c0, .ro h (fun _ => rfl) (fun _ => rfl), fun x h => by simp [c0] at h⟩
  | _, _, _, _, .box h a f => ⟨c0, .box h (fun _ => rfl) (fun _ => rfl), fun x h => by simp [c0] at h⟩
  | _, _, _, _, .fn h k a f => ⟨c0, .fn h k (fun _ => rfl) (fun _ => rfl), fun x h => by simp [c0] at h⟩
  | _, _, _, _, .ty a f => ⟨c0, .ty (fun _ => rfl) (fun _ => rfl), fun x h => by simp [c0] at h⟩
  | _, _, _, _, .exc h a f => ⟨c0, .exc h (fun _ => rfl) (fun _ => rfl), fun x h => by simp [c0] at h⟩
  | _, _, _, _, .dicO (p := p) h hp pl t e1 e2 => ⟨cp p, .dicF h.rd hp pl t (fun _ => rfl) (fun _ => rfl), fun x hx => by rw [e1]; omega⟩
  | _, _, _, _, .dicF (p := p) h hp pl t e1 e2 => ⟨cp p, .dicF h hp pl t (fun _ => rfl) (fun _ => rfl), fun x hx => by rw [e2]; omega⟩
theorem Reps.fz : ∀ {ds : List D} {vs : List V} {A F : Cnt}, Reps K mg H ρ ds vs A F → ∃ F', Reps K mg H ρ (fzs ds) vs c0 F' ∧ ∀ x, 1 ≤ F' x → 1 ≤ A x + F x
  | _, _, _, _, .nil a f => ⟨c0, .nil (fun _ => rfl) (fun _ => rfl), fun x h => by simp [c0] at h⟩
  | _, _, _, _, .cons h t e1 e2 => by
    obtain ⟨F1, r1, q1⟩ := Rep.fz h
    obtain ⟨F2, r2, q2⟩ := Reps.fz t
    refine ⟨fun x => F1 x + F2 x, .cons r1 r2 (fun _ => rfl) (fun _ => rfl), fun x hx => ?_⟩
    rw [e1, e2]
    by_cases z : 1 ≤ F1 x
    · have := q1 x z; omega
    · have hx : 1 ≤ F1 x + F2 x := hx
      have := q2 x (by omega); omega
end
mutual
theorem Rep.noF : ∀ {d : D} {v : V} {A F : Cnt}, Rep K mg H ρ d v A F → noF d = true → ∀ x, F x = 0
  | _, _, _, _, .non _ f, _, x => f x
  | _, _, _, _, .bl _ f, _, x => f x
  | _, _, _, _, .int _ f, _, x => f x
  | _, _, _, _, .str _ f, _, x => f x
  | _, _, _, _, .tup _ t, h, x => Reps.noF t (by simpa [Zm.noF] using h) x
  | _, _, _, _, .own _ _ t _, h, x => Reps.noF t (by simpa [Zm.noF] using h) x
  | _, _, _, _, .frz _ _ t _, h, x => by simp [Zm.noF] at h
  | _, _, _, _, .ro _ _ f, _, x => f x
  | _, _, _, _, .box _ _ f, _, x => f x
  | _, _, _, _, .fn _ _ _ f, _, x => f x
  | _, _, _, _, .ty _ f, _, x => f x
  | _, _, _, _, .exc _ _ f, _, x => f x
  | _, _, _, _, .dicO _ _ _ _ _ e2, _, x => e2 x
  | _, _, _, _, .dicF _ _ _ _ _ _, h, x => by simp [Zm.noF] at h
theorem Reps.noF : ∀ {ds : List D} {vs : List V} {A F : Cnt}, Reps K mg H ρ ds vs A F → noFs ds = true → ∀ x, F x = 0
  | _, _, _, _, .nil _ f, _, x => f x
  | _, _, _, _, .cons h t e1 e2, hn, x => by
    simp only [noFs, Bool.and_eq_true] at hn
    rw [e2, Rep.noF h hn.1, Reps.noF t hn.2]
end
mutual
theorem Rep.plain : ∀ {d : D} {v : V} {A F : Cnt}, Rep K mg H ρ d v A F → plain d = true → ∀ x, A x = 0 ∧ F x = 0
  | _, _, _, _, .non a f, _, x => ⟨a x, f x⟩
  | _, _, _, _, .bl a f, _, x => ⟨a x, f x⟩
  | _, _, _, _, .int a f, _, x => ⟨a x, f x⟩
  | _, _, _, _, .str a f, _, x => ⟨a x, f x⟩
  | _, _, _, _, .tup _ t, h, x => Reps.plain t (by simpa [Zm.plain] using h) x
  | _, _, _, _, .own _ _ t _, h, x => by simp [Zm.plain] at h
  | _, _, _, _, .frz _ _ t _, h, x => by simp [Zm.plain] at h
  | _, _, _, _, .ro _ a f, _, x => ⟨a x, f x⟩
  | _, _, _, _, .box _ a f, _, x => ⟨a x, f x⟩
  | _, _, _, _, .fn _ _ a f, _, x => ⟨a x, f x⟩
  | _, _, _, _, .ty a f, _, x => ⟨a x, f x⟩
  | _, _, _, _, .exc _ a f, _, x => ⟨a x, f x⟩
  | _, _, _, _, .dicO _ _ _ _ _ _, h, x => by simp [Zm.plain] at h
  | _, _, _, _, .dicF _ _ _ _ _ _, h, x => by simp [Zm.plain] at h
theorem Reps.plain : ∀ {ds : List D} {vs : List V} {A F : Cnt}, Reps K mg H ρ ds vs A F → plains ds = true → ∀ x, A x = 0 ∧ F x = 0
  | _, _, _, _, .nil a f, _, x => ⟨a x, f x⟩
  | _, _, _, _, .cons h t e1 e2, hn, x => by
    simp only [plains, Bool.and_eq_true] at hn
    have z1 := Rep.plain h hn.1 x
    have z2 := Reps.plain t hn.2 x
    rw [e1, e2]; omega
end
/-- a place in a row -/
theorem Reps.at : ∀ {ds : List D} {vs : List V} {A F : Cnt} {i : Nat} {d : D}, Reps K mg H ρ ds vs A F → ds[i]? = some d → ∃ v a f, vs[i]? = some v ∧ Rep K mg H ρ d v a f ∧ ∀ x, a x ≤ A x ∧ f x ≤ F x
  | _, _, _, _, i, _, .nil _ _, e => by simp at e
  | _, _, _, _, 0, _, .cons h t e1 e2, e => by
    simp at e; subst e
    exact ⟨_, _, _, rfl, h, fun x => by rw [e1, e2]; omega⟩
  | _, _, _, _, i + 1, _, .cons h t e1 e2, e => by
    obtain ⟨v, a, f, q1, q2, q3⟩ := Reps.at t (i := i) (by simpa using e)
    exact ⟨v, a, f, by simpa using q1, q2, fun x => by have := q3 x; rw [e1, e2]; omega⟩
/-- .. put otherwise -/
theorem Reps.set : ∀ {ds : List D} {vs : List V} {A F : Cnt} {i : Nat} {d e : D} {v : V} {a f : Cnt}, Reps K mg H ρ ds vs A F → ds[i]? = some d → Rep K mg H ρ e v a f →
    ∃ w a0 f0, vs[i]? = some w ∧ Rep K mg H ρ d w a0 f0 ∧ ∃ A' F', Reps K mg H ρ (ds.set i e) (vs.set i v) A' F' ∧ ∀ x, A' x + a0 x = A x + a x ∧ F' x + f0 x = F x + f x
  | _, _, _, _, i, _, _, _, _, _, .nil _ _, e, _ => by simp at e
  | _, _, _, _, 0, _, _, _, _, _, .cons h t e1 e2, e, r => by
    simp at e; subst e
    refine ⟨_, _, _, rfl, h, _, _, .cons r t (fun _ => rfl) (fun _ => rfl), fun x => ?_⟩
    rw [e1, e2]; omega
  | _, _, _, _, i + 1, _, _, _, _, _, .cons h t e1 e2, e, r => by
    obtain ⟨w, a0, f0, q1, q2, A', F', q3, q4⟩ := Reps.set t (i := i) (by simpa using e) r
    refine ⟨w, a0, f0, by simpa using q1, q2, _, _, .cons h q3 (fun _ => rfl) (fun _ => rfl), fun x => ?_⟩
    have := q4 x
    rw [e1, e2]; omega
theorem Reps.append : ∀ {ds es : List D} {vs ws : List V} {A F A' F' : Cnt}, Reps K mg H ρ ds vs A F → Reps K mg H ρ es ws A' F' → Reps K mg H ρ (ds ++ es) (vs ++ ws) (fun x => A x + A' x) (fun x => F x + F' x)
  | _, _, _, _, _, _, _, _, .nil a f, s => s.cong (fun x => by show _ + _ = _; rw [a]; omega) (fun x => by show _ + _ = _; rw [f]; omega)
  | _, _, _, _, _, _, _, _, .cons h t e1 e2, s => .cons h (Reps.append t s) (fun x => by show _ + _ = _; rw [e1]; omega) (fun x => by show _ + _ = _; rw [e2]; omega)
theorem Reps.one (h : Rep K mg H ρ d v A F) : Reps K mg H ρ [d] [v] A F := .cons h (.nil (A := c0) (F := c0) (fun _ => rfl) (fun _ => rfl)) (fun _ => rfl) (fun _ => rfl)
theorem Reps.split : ∀ {ds es : List D} {vs : List V} {A F : Cnt}, Reps K mg H ρ (ds ++ es) vs A F →
    ∃ ws us a f a' f', vs = ws ++ us ∧ Reps K mg H ρ ds ws a f ∧ Reps K mg H ρ es us a' f' ∧ ∀ x, A x = a x + a' x ∧ F x = f x + f' x
  | [], es, vs, A, F, h => ⟨[], vs, c0, c0, A, F, rfl, .nil (fun _ => rfl) (fun _ => rfl), h, fun x => by simp [c0]⟩
  | d :: ds, es, _, _, _, .cons h t e1 e2 => by
    obtain ⟨ws, us, a, f, a', f', e, r1, r2, q⟩ := Reps.split t
    subst e
    exact ⟨_ :: ws, us, _, _, a', f', rfl, .cons h r1 (fun _ => rfl) (fun _ => rfl), r2, fun x => by rw [e1, e2]; have := q x; omega⟩
theorem Reps.reverse : ∀ {ds : List D} {vs : List V} {A F : Cnt}, Reps K mg H ρ ds vs A F → Reps K mg H ρ ds.reverse vs.reverse A F
  | _, _, _, _, .nil a f => .nil a f
  | _, _, _, _, .cons h t e1 e2 => by
    rw [List.reverse_cons, List.reverse_cons]
    exact (Reps.append (Reps.reverse t) (Reps.one h)).cong (fun x => by rw [e1]; omega) (fun x => by rw [e2]; omega)
end
end Zm
set_option Elab.async false
set_option linter.all false
set_option maxRecDepth 100000
set_option autoImplicit false
/-! Z1: the state of the machine, what an expression's tree promises. -/
namespace Zm
open PySem PySem.Spec PyProof.Rows L2
theorem no0 {x : Addr} {P : Prop} (h : 1 ≤ c0 x) : P := absurd h (by show ¬ 1 ≤ 0; omega)
abbrev Xc := Str × Option Int
inductive R (α : Type) where
  | ok (a : α) (s : Sto) | ex (x : Xc) (s : Sto) | bad
def R.bind {α β : Type} (r : R α) (k : α → Sto → R β) : R β := match r with
  | .ok a s => k a s
  | .ex x s => .ex x s
  | .bad => .bad
@[simp] theorem R.bind_ok {α β : Type} {a : α} {s : Sto} {k : α → Sto → R β} : (R.ok a s).bind k = k a s := rfl
@[simp] theorem R.bind_ex {α β : Type} {x : Xc} {s : Sto} {k : α → Sto → R β} : (R.ex x s : R α).bind k = .ex x s := rfl
@[simp] theorem R.bind_bad {α β : Type} {k : α → Sto → R β} : (R.bad : R α).bind k = .bad := rfl
abbrev M := Env → Sto → R D
abbrev Fn := List D → Sto → R D
def R.of {α : Type} (d : Option α) (s : Sto) : R α := match d with
  | some d => .ok d s
  | none => .bad
@[simp] theorem R.of_some {α : Type} {d : α} {s : Sto} : R.of (some d) s = .ok d s := rfl
@[simp] theorem R.of_none {α : Type} {s : Sto} : R.of (none : Option α) s = .bad := rfl
section
variable (K : PySem.W.Frag) (mg : Str → Option Value)
/-- the store's lists, where they stand -/
structure Wd (ρ : List Addr) (s : Sto) (H : Hp) : Prop where
  len : ρ.length = s.length
  nd : ρ.Nodup
  at_ : ∀ (n : Nat) (p : Addr) (xs : List D), ρ[n]? = some p → s[n]? = some xs → plains xs = true ∧ ∃ vs a f, H p = some (.lst vs) ∧ Reps K mg H ρ xs vs a f
inductive EnvR (H : Hp) (ρ : List Addr) : Env → L2.St → Cnt → Cnt → Prop
  | nil {A F : Cnt} : (∀ x, A x = 0) → (∀ x, F x = 0) → EnvR H ρ [] [] A F
  | no {σm : Env} {w : Option V} {σ : L2.St} {A F : Cnt} : EnvR H ρ σm σ A F → EnvR H ρ (none :: σm) (w :: σ) A F
  | yes {d : D} {v : V} {σm : Env} {σ : L2.St} {a f a' f' A F : Cnt} : Rep K mg H ρ d v a f → EnvR H ρ σm σ a' f' → (∀ x, A x = a x + a' x) → (∀ x, F x = f x + f' x) → EnvR H ρ (some d :: σm) (some v :: σ) A F
structure Rel (σm : Env) (s : Sto) (σ : L2.St) (H : Hp) (ρ : List Addr) (A F : Cnt) : Prop where
  env : EnvR K mg H ρ σm σ A F
  wd : Wd K mg ρ s H
  sep : ∀ x, A x ≤ 1 ∧ (1 ≤ A x → F x = 0)
end
/-- an exception of the machine, as it lies -/
def RepX (mg : Str → Option Value) (H : Hp) (x : Xc) (cls : Value) (dd : Option Addr) : Prop :=
  ∃ C, mg x.1 = some (.ref C) ∧ cls = .ref C ∧ match x.2 with
    | none => dd = none
    | some m => ∃ q, dd = some q ∧ H q = some (.xd [("many", .int m)])
section
variable {K : PySem.W.Frag} {mg : Str → Option Value} {H H' H1 : Hp} {ρ ρ' ρ1 : List Addr} {σm : Env} {σ : L2.St} {s s' s1 : Sto} {d e : D} {ds es : List D} {v : V} {vs ws : List V} {A F A' F' a f Mc : Cnt}
theorem EnvR.cong : EnvR K mg H ρ σm σ A F → (∀ x, A' x = A x) → (∀ x, F' x = F x) → EnvR K mg H ρ σm σ A' F' := by
  intro h hA hF
  have : A' = A := funext hA
  have : F' = F := funext hF
  subst_vars; exact h
theorem EnvR.length : ∀ {σm : Env} {σ : L2.St} {A F : Cnt}, EnvR K mg H ρ σm σ A F → σm.length = σ.length
  | _, _, _, _, .nil _ _ => rfl
  | _, _, _, _, .no t => congrArg (· + 1) t.length
  | _, _, _, _, .yes _ t _ _ => congrArg (· + 1) t.length
theorem EnvR.frame (fr : Fr Mc H H' ρ ρ') : ∀ {σm : Env} {σ : L2.St} {A F : Cnt}, EnvR K mg H ρ σm σ A F → (∀ x, 1 ≤ Mc x → A x = 0 ∧ F x = 0) → EnvR K mg H' ρ' σm σ A F
  | _, _, _, _, .nil a f, _ => .nil a f
  | _, _, _, _, .no t, hm => .no (EnvR.frame fr t hm)
  | _, _, _, _, .yes h t e1 e2, hm => .yes (h.frame fr fun x hx => by have := hm x hx; rw [e1, e2] at this; omega) (EnvR.frame fr t fun x hx => by have := hm x hx; rw [e1, e2] at this; omega) e1 e2
theorem EnvR.there : ∀ {σm : Env} {σ : L2.St} {A F : Cnt}, EnvR K mg H ρ σm σ A F → ∀ x, 1 ≤ A x + F x → (∃ o, H x = some o) ∧ x ∉ ρ
  | _, _, _, _, .nil a f, x, hx => by rw [a, f] at hx; omega
  | _, _, _, _, .no t, x, hx => EnvR.there t x hx
  | _, _, _, _, .yes (a := a) (f := f) h t e1 e2, x, hx => by
    rw [e1, e2] at hx
    by_cases z : 1 ≤ a x + f x
    · exact h.there x z
    · exact EnvR.there t x (by omega)
theorem EnvR.get : ∀ {σm : Env} {σ : L2.St} {A F : Cnt} {i : Nat} {d : D}, EnvR K mg H ρ σm σ A F → σm[i]? = some (some d) → ∃ v a f, σ[i]? = some (some v) ∧ Rep K mg H ρ d v a f ∧ ∀ x, a x ≤ A x ∧ f x ≤ F x
  | _, _, _, _, i, _, .nil _ _, e => by simp at e
  | _, _, _, _, 0, _, .no _, e => by simp at e
  | _, _, _, _, i + 1, _, .no t, e => by
    obtain ⟨v, a, f, q⟩ := EnvR.get t (i := i) (by simpa using e)
    exact ⟨v, a, f, by simpa using q⟩
  | _, _, _, _, 0, _, .yes h t e1 e2, e => by
    simp at e; subst e
    exact ⟨_, _, _, rfl, h, fun x => by rw [e1, e2]; omega⟩
  | _, _, _, _, i + 1, _, .yes h t e1 e2, e => by
    obtain ⟨v, a, f, q1, q2, q3⟩ := EnvR.get t (i := i) (by simpa using e)
    exact ⟨v, a, f, by simpa using q1, q2, fun x => by have := q3 x; rw [e1, e2]; omega⟩
/-- a slot stored: what it held goes -/
theorem EnvR.set : ∀ {σm : Env} {σ : L2.St} {A F : Cnt} (i : Nat) {d : D} {v : V} {a f : Cnt}, EnvR K mg H ρ σm σ A F → Rep K mg H ρ d v a f → i < σm.length →
    ∃ A' F', EnvR K mg H ρ (σm.set i (some d)) (σ.set i (some v)) A' F' ∧ (∀ x, A' x ≤ A x + a x ∧ F' x ≤ F x + f x) ∧
      ∀ e, σm[i]? = some (some e) → ∃ w a0 f0, σ[i]? = some (some w) ∧ Rep K mg H ρ e w a0 f0 ∧ ∀ x, A' x + a0 x = A x + a x ∧ F' x + f0 x = F x + f x
  | _, _, _, _, i, _, _, _, _, .nil _ _, _, hi => by simp at hi
  | _, _, _, _, 0, _, _, _, _, .no t, r, _ => ⟨_, _, .yes r t (fun _ => rfl) (fun _ => rfl), fun x => by constructor <;> show _ + _ ≤ _ <;> omega, fun e q => by simp at q⟩
  | _, _, _, _, i + 1, _, _, _, _, .no t, r, hi => by
    obtain ⟨A', F', q1, q2, q3⟩ := EnvR.set i t r (by simpa using hi)
    exact ⟨A', F', .no q1, q2, fun e q => q3 e (by simpa using q)⟩
  | _, _, _, _, 0, _, _, _, _, .yes h t e1 e2, r, _ => by
    refine ⟨_, _, .yes r t (fun _ => rfl) (fun _ => rfl), fun x => by rw [e1, e2]; omega, fun e q => ?_⟩
    simp at q; subst q
    exact ⟨_, _, _, rfl, h, fun x => by rw [e1, e2]; omega⟩
  | _, _, _, _, i + 1, _, _, _, _, .yes h t e1 e2, r, hi => by
    obtain ⟨A', F', q1, q2, q3⟩ := EnvR.set i t r (by simpa using hi)
    refine ⟨_, _, .yes h q1 (fun _ => rfl) (fun _ => rfl), fun x => by have := q2 x; rw [e1, e2]; omega, fun e q => ?_⟩
    obtain ⟨w, a0, f0, z1, z2, z3⟩ := q3 e (by simpa using q)
    exact ⟨w, a0, f0, by simpa using z1, z2, fun x => by have := z3 x; rw [e1, e2]; omega⟩
/-- fewer slots known -/
theorem EnvR.less : ∀ {σm σn : Env} {σ : L2.St} {A F : Cnt}, EnvR K mg H ρ σm σ A F → σn.length = σm.length → (∀ (i : Nat) (d : D), σn[i]? = some (some d) → σm[i]? = some (some d)) →
    ∃ A' F', EnvR K mg H ρ σn σ A' F' ∧ ∀ x, A' x ≤ A x ∧ F' x ≤ F x
  | [], [], _, _, _, .nil a f, _, _ => ⟨_, _, .nil a f, fun x => ⟨Nat.le_refl _, Nat.le_refl _⟩⟩
  | _ :: _, n :: σn, _, _, _, .no t, hl, hi => by
    obtain ⟨A', F', r, q⟩ := EnvR.less t (σn := σn) (by simpa using hl) fun i d e => by simpa using hi (i + 1) d (by simpa using e)
    cases n with
    | none => exact ⟨A', F', .no r, q⟩
    | some d => have := hi 0 d rfl; simp at this
  | _ :: _, n :: σn, _, _, _, .yes h t e1 e2, hl, hi => by
    obtain ⟨A', F', r, q⟩ := EnvR.less t (σn := σn) (by simpa using hl) fun i d e => by simpa using hi (i + 1) d (by simpa using e)
    cases n with
    | none => exact ⟨A', F', .no r, fun x => by have := q x; rw [e1, e2]; omega⟩
    | some d =>
      have := hi 0 d rfl
      simp at this; subst this
      exact ⟨_, _, .yes h r (fun _ => rfl) (fun _ => rfl), fun x => by have := q x; rw [e1, e2]; omega⟩
theorem Wd.same (w : Wd K mg ρ s H) (h : Same H H') : Wd K mg ρ s H' := by
  have fr : Fr c0 H H' ρ ρ := ⟨fun x o e => .inl (h x o e), fun x e => h.free e, [], by simp, by simp⟩
  refine ⟨w.len, w.nd, fun n p xs e1 e2 => ?_⟩
  obtain ⟨q, vs, a, f, q1, q2⟩ := w.at_ n p xs e1 e2
  exact ⟨q, vs, a, f, h _ _ q1, q2.frame fr fun x hx => by simp [c0] at hx⟩
theorem Wd.lst (w : Wd K mg ρ s H) {p : Addr} (h : p ∈ ρ) : ∃ l, H p = some (.lst l) := by
  obtain ⟨n, hn⟩ := List.getElem?_of_mem h
  have hl := (List.getElem?_eq_some_iff.mp hn).1
  rw [w.len] at hl
  obtain ⟨_, vs, _, _, q, _⟩ := w.at_ n p _ hn (List.getElem?_eq_getElem hl)
  exact ⟨vs, q⟩
theorem Fr.of_same (h : Same H H') : Fr Mc H H' ρ ρ := ⟨fun x o e => .inl (h x o e), fun x e => h.free e, [], by simp, by simp⟩
theorem Rel.next (r : Rel K mg σm s σ H ρ A F) (fr : Fr c0 H H' ρ ρ') (w : Wd K mg ρ' s' H') : Rel K mg σm s' σ H' ρ' A F :=
  ⟨r.env.frame fr fun _ hx => no0 hx, w, r.sep⟩
/-- the counts of a result, against the slots' and the heap at the start -/
def Gd (A F : Cnt) (H : Hp) (a f : Cnt) : Prop := ∀ x, a x ≤ 1 ∧ (1 ≤ a x → f x = 0 ∧ H x = none) ∧ (1 ≤ f x → 1 ≤ A x ∨ 1 ≤ F x ∨ H x = none)
/-- .. against the arguments' -/
def Out (a f : Cnt) (H : Hp) (a' f' : Cnt) : Prop := ∀ x, a' x ≤ 1 ∧ (1 ≤ a' x → f' x = 0 ∧ (H x = none ∨ 1 ≤ a x)) ∧ (1 ≤ f' x → 1 ≤ a x ∨ 1 ≤ f x ∨ H x = none)
def Sp1 (a f : Cnt) : Prop := ∀ x, a x ≤ 1 ∧ (1 ≤ a x → f x = 0)
theorem Gd.sp (g : Gd A F H a f) : Sp1 a f := fun x => ⟨(g x).1, fun h => ((g x).2.1 h).1⟩
theorem Out.sp (g : Out A F H a f) : Sp1 a f := fun x => ⟨(g x).1, fun h => ((g x).2.1 h).1⟩
theorem Gd.out {a' f' : Cnt} (g : Gd A F H a f) (fr : Fr c0 H H1 ρ ρ1) (o : Out a f H1 a' f') : Gd A F H a' f' := fun x => by
  obtain ⟨o1, o2, o3⟩ := o x
  obtain ⟨g1, g2, g3⟩ := g x
  refine ⟨o1, fun h => ⟨(o2 h).1, ?_⟩, fun h => ?_⟩
  · rcases (o2 h).2 with z | z
    · exact fr.there x z
    · exact (g2 z).2
  · rcases o3 h with z | z | z
    · exact .inr (.inr (g2 z).2)
    · exact g3 z
    · exact .inr (.inr (fr.there x z))
theorem Gd.zero (ha : ∀ x, a x = 0) (hf : ∀ x, f x = 0) : Gd A F H a f := fun x => by rw [ha, hf]; omega
theorem Out.zero {a' f' : Cnt} (ha : ∀ x, a' x = 0) (hf : ∀ x, f' x = 0) : Out a f H a' f' := fun x => by rw [ha, hf]; omega
theorem Rep.on (r : Rep K mg H ρ d v A F) (fr : Fr c0 H H' ρ ρ') : Rep K mg H' ρ' d v A F := r.frame fr fun _ hx => no0 hx
theorem Reps.on (r : Reps K mg H ρ ds vs A F) (fr : Fr c0 H H' ρ ρ') : Reps K mg H' ρ' ds vs A F := r.frame fr fun _ hx => no0 hx
theorem Rep.sm (r : Rep K mg H ρ d v A F) (h : Same H H') : Rep K mg H' ρ d v A F := r.on (Fr.of_same h)
theorem Reps.sm (r : Reps K mg H ρ ds vs A F) (h : Same H H') : Reps K mg H' ρ ds vs A F := r.on (Fr.of_same h)
theorem Fr.tr (a : Fr c0 H H1 ρ ρ1) (b : Fr c0 H1 H' ρ1 ρ') : Fr c0 H H' ρ ρ' := a.trans b fun _ hx => no0 hx
theorem same_upd {H : Hp} {p : Addr} {o : HO} (hp : H p = none) : Same H (upd H p o) := fun x u e => by rw [upd_ne (ne_of_none e hp)]; exact e
/-! ### an expression's reading -/
section
variable (K mg) (W : WX) (σ : L2.St) (A F : Cnt) (H : Hp) (ρ : List Addr)
def oE (Q : VK) : R D → Prop
  | .ok d s' => ∀ v H' ρ' a f, Fr c0 H H' ρ ρ' → Wd K mg ρ' s' H' → Rep K mg H' ρ' d v a f → Gd A F H a f → Q v H'
  | .ex x s' => ∀ cls dd H' ρ', Fr c0 H H' ρ ρ' → Wd K mg ρ' s' H' → RepX mg H' x cls dd → W cls dd σ H'
  | .bad => False
def oA (Q : List V → Hp → Prop) : R (List D) → Prop
  | .ok ds s' => ∀ vs H' ρ' a f, Fr c0 H H' ρ ρ' → Wd K mg ρ' s' H' → Reps K mg H' ρ' ds vs a f → Gd A F H a f → Q vs H'
  | .ex x s' => ∀ cls dd H' ρ', Fr c0 H H' ρ ρ' → Wd K mg ρ' s' H' → RepX mg H' x cls dd → W cls dd σ H'
  | .bad => False
end
section
variable (K : PySem.W.Frag) (mg : Str → Option Value) (W : WX)
def rE (m : M) : TE := fun σ H Q => ∃ σm s ρ A F, Rel K mg σm s σ H ρ A F ∧ oE K mg W σ A F H ρ Q (m σm s)
def rA (m : Env → Sto → R (List D)) : TA := fun σ H Q => ∃ σm s ρ A F, Rel K mg σm s σ H ρ A F ∧ oA K mg W σ A F H ρ Q (m σm s)
end
@[simp] def mArgs : List M → Env → Sto → R (List D)
  | [], _, s => .ok [] s
  | m :: ms, σ, s => (m σ s).bind fun d s1 => (mArgs ms σ s1).bind fun ds s2 => .ok (d :: ds) s2
end
def SE (X : Cx) (W : WX) (e : Expr) (m : M) : Prop := PE X e (rE X.K X.mg W m)
def SA (X : Cx) (W : WX) (es : List Expr) (ms : List M) : Prop := PA X es (rA X.K X.mg W (mArgs ms))
theorem PE.imp {X : Cx} {e : Expr} {t t' : TE} (h : PE X e t) (q : ∀ σ H Q, t' σ H Q → t σ H Q) : PE X e t' := ⟨fun pins s σ H Q I w => h.run pins s σ H Q I (q σ H Q w)⟩
theorem PT.imp {X : Cx} {e : Expr} {t t' : TT} (h : PT X e t) (q : ∀ σ H Q, t' σ H Q → t σ H Q) : PT X e t' := ⟨fun pins s σ H Q I w => h.run pins s σ H Q I (q σ H Q w)⟩
theorem PA.imp {X : Cx} {e : List Expr} {t t' : TA} (h : PA X e t) (q : ∀ σ H Q, t' σ H Q → t σ H Q) : PA X e t' := ⟨fun pos pins s σ H Q I w => h.run pos pins s σ H Q I (q σ H Q w)⟩
theorem PS.imp {X : Cx} {e : Stmt} {t t' : TS} (h : PS X e t) (q : ∀ D σ H, t' D σ H → t D σ H) : PS X e t' := ⟨fun pins s σ H D I w => h.run pins s σ H D I (q D σ H w)⟩
theorem PSs.imp {X : Cx} {e : List Stmt} {t t' : TS} (h : PSs X e t) (q : ∀ D σ H, t' D σ H → t D σ H) : PSs X e t' := ⟨fun pins s σ H D I w => h.run pins s σ H D I (q D σ H w)⟩
section
variable {K : PySem.W.Frag} {mg : Str → Option Value} {W : WX} {m : M} {ms : List M} {σ : L2.St} {H : Hp}
theorem rA_nil {R : List V → Hp → Prop} (h : rA K mg W (mArgs []) σ H R) : R [] H := by
  obtain ⟨σm, s, ρ, A, F, rel, h⟩ := h
  exact h [] H ρ c0 c0 .refl rel.wd (.nil (fun _ => rfl) (fun _ => rfl)) (.zero (fun _ => rfl) (fun _ => rfl))
theorem rA_cons {R : List V → Hp → Prop} (h : rA K mg W (mArgs (m :: ms)) σ H R) : rE K mg W m σ H fun x H1 => rA K mg W (mArgs ms) σ H1 fun xs H2 => R (x :: xs) H2 := by
  obtain ⟨σm, s, ρ, A, F, rel, h⟩ := h
  refine ⟨σm, s, ρ, A, F, rel, ?_⟩
  unfold mArgs at h
  cases e1 : m σm s with
  | bad => rw [e1] at h; exact h
  | ex x s1 => rw [e1] at h; exact h
  | ok d s1 =>
    rw [e1] at h
    intro v H1 ρ1 a f fr wd rp g
    refine ⟨σm, s1, ρ1, A, F, rel.next fr wd, ?_⟩
    rw [Zm.R.bind_ok] at h
    cases e2 : mArgs ms σm s1 with
    | bad => rw [e2] at h; exact h
    | ex x s2 =>
      rw [e2] at h
      intro cls dd H2 ρ2 fr2 wd2 rx
      exact h cls dd H2 ρ2 (fr.trans fr2 fun _ hx => no0 hx) wd2 rx
    | ok ds s2 =>
      rw [e2] at h
      intro vs H2 ρ2 a2 f2 fr2 wd2 rp2 g2
      refine h (v :: vs) H2 ρ2 (fun x => a x + a2 x) (fun x => f x + f2 x) (fr.trans fr2 fun _ hx => no0 hx) wd2 (.cons (rp.frame fr2 fun _ hx => no0 hx) rp2 (fun _ => rfl) (fun _ => rfl)) fun x => ?_
      obtain ⟨p1, p2, p3⟩ := g x
      obtain ⟨q1, q2, q3⟩ := g2 x
      have th := rp.there x
      have ev := rel.env.there x
      have n1 : H1 x = none → H x = none := fr.there x
      by_cases ha : 1 ≤ a x
      · obtain ⟨⟨o, ho⟩, _⟩ := th (by omega)
        have z2 : a2 x = 0 := by
          cases q : a2 x with
          | zero => rfl
          | succ k => have := (q2 (by omega)).2; rw [ho] at this; cases this
        have z3 : f2 x = 0 := by
          cases q : f2 x with
          | zero => rfl
          | succ k =>
            have hn := (p2 ha).2
            rcases q3 (by omega) with z | z | z
            · obtain ⟨⟨o', ho'⟩, _⟩ := ev (by omega); rw [hn] at ho'; cases ho'
            · obtain ⟨⟨o', ho'⟩, _⟩ := ev (by omega); rw [hn] at ho'; cases ho'
            · rw [ho] at z; cases z
        have := p2 ha
        refine ⟨by show a x + a2 x ≤ 1; omega, fun _ => ⟨by show f x + f2 x = 0; omega, this.2⟩, fun h => ?_⟩
        have h : 1 ≤ f x + f2 x := h
        omega
      · have ha0 : a x = 0 := by omega
        refine ⟨by show a x + a2 x ≤ 1; omega, fun h => ?_, fun h => ?_⟩
        · have h : 1 ≤ a x + a2 x := h
          have z := q2 (by omega)
          have zf : f x = 0 := by
            cases q : f x with
            | zero => rfl
            | succ k => obtain ⟨⟨o, ho⟩, _⟩ := th (by omega); rw [z.2] at ho; cases ho
          exact ⟨by show f x + f2 x = 0; omega, n1 z.2⟩
        · have h : 1 ≤ f x + f2 x := h
          by_cases z : 1 ≤ f x
          · exact p3 z
          · rcases q3 (by omega) with y | y | y
            · exact .inl y
            · exact .inr (.inl y)
            · exact .inr (.inr (n1 y))
end
section
variable {X : Cx} {W : WX} {e : Expr} {es : List Expr} {m ma mb mc : M} {ms : List M} {pos : Pos}
theorem sa_nil : SA X W [] [] := PA.imp pa_nil fun σ H Q h => rA_nil h
theorem sa_cons (he : SE X W e m) (hs : SA X W es ms) (hst : starEach (e :: es) X.env = (false, eval e X.env) :: starEach es X.env := by rfl) : SA X W (e :: es) (m :: ms) :=
  PA.imp (pa_cons he hs hst) fun σ H Q h => rA_cons h
/-! ### what values make of values -/
/-- by values: the arguments ds give d; only new objects come -/
def OpV (K : PySem.W.Frag) (mg : Str → Option Value) (r : List V → Hp → VK → Prop) (g : Sto → List D → Option D) : Prop :=
  ∀ ρ s H ds vs a f d, Wd K mg ρ s H → Reps K mg H ρ ds vs a f → Sp1 a f → g s ds = some d → ∀ Q : VK, (∀ v H' a' f', Same H H' → Rep K mg H' ρ d v a' f' → Out a f H a' f' → Q v H') → r vs H Q
@[simp] def mOp (g : Sto → List D → Option D) (ms : List M) : M := fun σ s => (mArgs ms σ s).bind fun ds s' => R.of (g s' ds) s'
theorem rA_op {K : PySem.W.Frag} {mg : Str → Option Value} {W : WX} {σ : L2.St} {H : Hp} {Q : VK} {r : List V → Hp → VK → Prop} {g : Sto → List D → Option D} (ho : OpV K mg r g) (h : rE K mg W (mOp g ms) σ H Q) : rA K mg W (mArgs ms) σ H fun vs H' => r vs H' Q := by
  obtain ⟨σm, s, ρ, A, F, rel, h⟩ := h
  refine ⟨σm, s, ρ, A, F, rel, ?_⟩
  unfold mOp at h
  cases e1 : mArgs ms σm s with
  | bad => rw [e1] at h; exact h
  | ex x s1 => rw [e1] at h; exact h
  | ok ds s1 =>
    rw [e1, Zm.R.bind_ok] at h
    intro vs H1 ρ1 a f fr wd rp g1
    cases e2 : g s1 ds with
    | none => rw [e2] at h; exact h.elim
    | some d =>
      rw [e2] at h
      exact ho ρ1 s1 H1 ds vs a f d wd rp g1.sp e2 Q fun v H2 a' f' sm rp2 o => h v H2 ρ1 a' f' (fr.trans (Fr.of_same (Mc := c0) sm) fun _ hx => no0 hx) (wd.same sm) rp2 (g1.out fr o)
abbrev r2 (r : R2) : List V → Hp → VK → Prop := fun vs H Q => ∃ x y, vs = [x, y] ∧ r x y H Q
abbrev r1 (r : V → Hp → VK → Prop) : List V → Hp → VK → Prop := fun vs H Q => ∃ x, vs = [x] ∧ r x H Q
theorem rA_2 {K : PySem.W.Frag} {mg : Str → Option Value} {W : WX} {σ : L2.St} {H : Hp} {Q : List V → Hp → Prop} (h : rA K mg W (mArgs [ma, mb]) σ H Q) : rE K mg W ma σ H fun x H1 => rE K mg W mb σ H1 fun y H2 => Q [x, y] H2 := by
  obtain ⟨σm, s, ρ, A, F, rel, h⟩ := rA_cons h
  refine ⟨σm, s, ρ, A, F, rel, ?_⟩
  cases e1 : ma σm s with
  | bad => rw [e1] at h; exact h
  | ex x s1 => rw [e1] at h; exact h
  | ok d s1 =>
    rw [e1] at h
    intro v H1 ρ1 a f fr wd rp g
    obtain ⟨σm, s, ρ, A, F, rel, h⟩ := rA_cons (h v H1 ρ1 a f fr wd rp g)
    refine ⟨σm, s, ρ, A, F, rel, ?_⟩
    cases e2 : mb σm s with
    | bad => rw [e2] at h; exact h
    | ex x s1 => rw [e2] at h; exact h
    | ok d s1 =>
      rw [e2] at h
      intro v H1 ρ1 a f fr wd rp g
      exact rA_nil (h v H1 ρ1 a f fr wd rp g)
theorem rA_1 {K : PySem.W.Frag} {mg : Str → Option Value} {W : WX} {σ : L2.St} {H : Hp} {Q : List V → Hp → Prop} (h : rA K mg W (mArgs [ma]) σ H Q) : rE K mg W ma σ H fun x H1 => Q [x] H1 := by
  obtain ⟨σm, s, ρ, A, F, rel, h⟩ := rA_cons h
  refine ⟨σm, s, ρ, A, F, rel, ?_⟩
  cases e1 : ma σm s with
  | bad => rw [e1] at h; exact h
  | ex x s1 => rw [e1] at h; exact h
  | ok d s1 =>
    rw [e1] at h
    intro v H1 ρ1 a f fr wd rp g
    exact rA_nil (h v H1 ρ1 a f fr wd rp g)
theorem rE_mono {K : PySem.W.Frag} {mg : Str → Option Value} {W : WX} {σ : L2.St} {H : Hp} {Q Q' : VK} (h : rE K mg W m σ H Q) (q : ∀ v H', Q v H' → Q' v H') : rE K mg W m σ H Q' := by
  obtain ⟨σm, s, ρ, A, F, rel, h⟩ := h
  refine ⟨σm, s, ρ, A, F, rel, ?_⟩
  cases e1 : m σm s with
  | bad => rw [e1] at h; exact h
  | ex x s1 => rw [e1] at h; exact h
  | ok d s1 =>
    rw [e1] at h
    intro v H1 ρ1 a f fr wd rp g
    exact q _ _ (h v H1 ρ1 a f fr wd rp g)
theorem s_bin {a b : Expr} {op : Operator} {r : R2} {g : Sto → List D → Option D} (ho : OpR X (binaryOp op) r) (hv : OpV X.K X.mg (r2 r) g) (ha : SE X W a ma) (hb : SE X W b mb) : SE X W (.BinOp a op b pos) (mOp g [ma, mb]) :=
  PE.imp (pe_op ho ha hb) fun σ H Q h => rE_mono (rA_2 (rA_op hv h)) fun v H1 q => rE_mono q fun u H2 ⟨x, y, e, z⟩ => by cases e; exact z
theorem s_un {a : Expr} {op : UnaryOp} {r : V → Hp → VK → Prop} {g : Sto → List D → Option D} (ho : UnR X (unaryOp op) r) (hv : OpV X.K X.mg (r1 r) g) (ha : SE X W a ma) : SE X W (.UnaryOp op a pos) (mOp g [ma]) :=
  PE.imp (pe_un ho ha) fun σ H Q h => rE_mono (rA_1 (rA_op hv h)) fun v H1 ⟨x, e, z⟩ => by cases e; exact z
theorem s_cmp {a b : Expr} {op : CmpOp} {r : R2} {g : Sto → List D → Option D} (ho : OpR X (compareOp op) r) (hv : OpV X.K X.mg (r2 r) g) (ha : SE X W a ma) (hb : SE X W b mb) (hm : behindInMarks op b = false := by first | exact nomark _ | rfl) : SE X W (.Compare a [op] [b] pos) (mOp g [ma, mb]) :=
  PE.imp (pe_cmpR ho ha hb hm) fun σ H Q h => rE_mono (rA_2 (rA_op hv h)) fun v H1 q => rE_mono q fun u H2 ⟨x, y, e, z⟩ => by cases e; exact z
/-- a built-in by its name -/
theorem s_blt {x : Str} {id : String} {p : Pos} {r : List V → Hp → VK → Prop} {g : Sto → List D → Option D} (ho : CallR X (.builtin id) r) (hv : OpV X.K X.mg r g) (hm : X.mg x = none) (hb : bootBuiltins x = some (.builtin id)) (ha : SA X W (e :: es) ms) (hg : Gl X x := by rfl)
    (hn : x ≠ "__name__" := by decide) (hdb : (x == ("__debug__" : Str)) = false := by decide) (he : starEach (e :: es) X.env = (false, eval e X.env) :: starEach es X.env := by rfl) (hpl : (backTo pos (starEach es X.env)).any (·.1) = false := by rfl) : SE X W (.Call (.Name x p) (e :: es) [] pos) (mOp g ms) :=
  PE.imp (pe_callB ho hg hm hb ha hn hdb he hpl) fun σ H Q h => rA_op hv h
theorem s_blty {x : Str} {T : String} {p : Pos} {r : List V → Hp → VK → Prop} {g : Sto → List D → Option D} (ho : CallR X (.type T) r) (hv : OpV X.K X.mg r g) (hm : X.mg x = none) (hb : bootBuiltins x = some (.type T)) (ha : SA X W (e :: es) ms) (hg : Gl X x := by rfl)
    (hn : x ≠ "__name__" := by decide) (hdb : (x == ("__debug__" : Str)) = false := by decide) (he : starEach (e :: es) X.env = (false, eval e X.env) :: starEach es X.env := by rfl) (hpl : (backTo pos (starEach es X.env)).any (·.1) = false := by rfl) : SE X W (.Call (.Name x p) (e :: es) [] pos) (mOp g ms) :=
  PE.imp (pe_callTy ho hg hm hb ha hn hdb he hpl) fun σ H Q h => rA_op hv h
/-! ### names and constants -/
@[simp] def mVar (i : Nat) : M := fun σ s => match σ[i]? with
  | some (some d) => .ok (fz d) s
  | _ => .bad
@[simp] def mC (d : D) : M := fun _ s => .ok d s
theorem rE_var {K : PySem.W.Frag} {mg : Str → Option Value} {W : WX} {i : Nat} {σ : L2.St} {H : Hp} {Q : VK} (h : rE K mg W (mVar i) σ H Q) : tVar i σ H Q := by
  obtain ⟨σm, s, ρ, A, F, rel, h⟩ := h
  unfold mVar at h
  cases e : σm[i]? with
  | none => rw [e] at h; exact h.elim
  | some o =>
    cases o with
    | none => rw [e] at h; exact h.elim
    | some d =>
      rw [e] at h
      obtain ⟨v, a, f, e2, rp, le⟩ := rel.env.get e
      obtain ⟨f', rp', q⟩ := rp.fz
      exact ⟨v, e2, h v H ρ c0 f' .refl rel.wd rp' fun x => ⟨by simp [c0], fun z => by simp [c0] at z, fun z => by have := q x z; have := le x; omega⟩⟩
theorem s_var (i : Nat) {x : Str} {pos : Pos} (hN : X.N[i]? = some x := by rfl) (hv : Vis X.env.scope x := by first | exact Or.inl rfl | exact Or.inr (Or.inl rfl) | exact Or.inr (Or.inr rfl)) (hd : (x == ("__debug__" : Str)) = false := by decide)
    (hcd : (x == ("__classdict__" : Str)) = false := by decide) : SE X W (.Name x pos) (mVar i) := PE.imp (pe_var hN hv hd hcd) fun σ H Q h => rE_var h
theorem rE_c {K : PySem.W.Frag} {mg : Str → Option Value} {W : WX} {d : D} {v : V} {σ : L2.St} {H : Hp} {Q : VK} (hr : ∀ H ρ, Rep K mg H ρ d v c0 c0) (h : rE K mg W (mC d) σ H Q) : tC v σ H Q := by
  obtain ⟨σm, s, ρ, A, F, rel, h⟩ := h
  exact h v H ρ c0 c0 .refl rel.wd (hr H ρ) (.zero (fun _ => rfl) (fun _ => rfl))
theorem s_int {i j pos} : SE X W (.Constant (.int i) j pos) (mC (.int i)) := PE.imp pe_int fun σ H Q h => rE_c (fun _ _ => .int (fun _ => rfl) (fun _ => rfl)) h
theorem s_bl {i j pos} : SE X W (.Constant (.bool i) j pos) (mC (.bl i)) := PE.imp pe_bl fun σ H Q h => rE_c (fun _ _ => .bl (fun _ => rfl) (fun _ => rfl)) h
theorem s_non {j pos} : SE X W (.Constant .none j pos) (mC .non) := PE.imp pe_non fun σ H Q h => rE_c (fun _ _ => .non (fun _ => rfl) (fun _ => rfl)) h
theorem s_str {x j pos} : SE X W (.Constant (.str x) j pos) (mC (.str x)) := PE.imp pe_str fun σ H Q h => rE_c (fun _ _ => .str (fun _ => rfl) (fun _ => rfl)) h
/-- a constant of the module -/
theorem s_gi {x : Str} {i : Int} {t : Tok} {pos : Pos} (hm : X.mg x = some (.int i t)) (hg : Gl X x := by rfl) (hd : (x == ("__debug__" : Str)) = false := by decide) : SE X W (.Name x pos) (mC (.int i)) :=
  PE.imp (pe_glob (v := .int i) hg hm ⟨t, rfl⟩ hd) fun σ H Q h => rE_c (fun _ _ => .int (fun _ => rfl) (fun _ => rfl)) h
theorem s_fn {x : Str} {f : Addr} {pos : Pos} (hm : X.mg x = some (.ref f)) (hk : PySem.W.keepIn X.K (.ref f) = true) (hg : Gl X x := by rfl) (hd : (x == ("__debug__" : Str)) = false := by decide) : SE X W (.Name x pos) (mC (.fn x)) :=
  PE.imp (pe_glob (v := .ref f) hg hm rfl hd) fun σ H Q h => rE_c (fun _ _ => .fn hm hk (fun _ => rfl) (fun _ => rfl)) h
/-! ### displays -/
def gTup : Sto → List D → Option D := fun _ ds => if ds.length ≤ sizeLine then some (.tup ds) else none
def gLst : Sto → List D → Option D := fun _ ds => if ds.length ≤ sizeLine then some (.lst true ds) else none
theorem new_tup {K : PySem.W.Frag} {mg : Str → Option Value} {H : Hp} {ρ : List Addr} {p : Addr} {ds : List D} {vs : List V} {a f : Cnt} (hp : H p = none) (r : Reps K mg H ρ ds vs a f) : Rep K mg (upd H p (.tup vs)) ρ (.tup ds) (.ref p) a f :=
  .tup upd_same (r.sm (Zm.same_upd hp))
theorem new_lst {K : PySem.W.Frag} {mg : Str → Option Value} {H : Hp} {ρ : List Addr} {s : Sto} {p : Addr} {ds : List D} {vs : List V} {a f : Cnt} (w : Wd K mg ρ s H) (hp : H p = none) (r : Reps K mg H ρ ds vs a f) (h : Sp1 a f) : Rep K mg (upd H p (.lst vs)) ρ (.lst true ds) (.ref p) (fun x => cp p x + a x) f ∧ Out a f H (fun x => cp p x + a x) f := by
  have hn : p ∉ ρ := fun z => by obtain ⟨l, q⟩ := w.lst z; rw [hp] at q; cases q
  have h0 : a p = 0 ∧ f p = 0 := by
    have := r.there p
    by_cases z : 1 ≤ a p + f p
    · obtain ⟨⟨o, q⟩, _⟩ := this z; rw [hp] at q; cases q
    · omega
  refine ⟨.own upd_same hn (r.sm (Zm.same_upd hp)) (fun _ => rfl), fun x => ?_⟩
  have := h x
  by_cases q : x = p
  · subst q
    dsimp only
    rw [cp_same]
    exact ⟨by omega, fun _ => ⟨h0.2, .inl hp⟩, fun z => .inr (.inl z)⟩
  · dsimp only
    rw [cp_ne q]
    exact ⟨by omega, fun z => ⟨this.2 (by omega), .inr (by omega)⟩, fun z => .inr (.inl z)⟩
theorem Out.refl {a f : Cnt} {H : Hp} (h : Sp1 a f) : Out a f H a f := fun x => by have := h x; exact ⟨this.1, fun z => ⟨this.2 z, .inr z⟩, fun z => .inr (.inl z)⟩
theorem v_tup {K mg} : OpV K mg (fun vs H Q => vs.length ≤ sizeLine ∧ ∀ p, H p = none → Q (.ref p) (upd H p (.tup vs))) gTup := by
  intro ρ s H ds vs a f d w r h e Q q
  unfold Zm.gTup at e
  split at e
  · rename_i z
    cases e
    exact ⟨by rw [← r.length]; exact z, fun p hp => q _ _ _ _ (same_upd hp) (new_tup hp r) (.refl h)⟩
  · cases e
theorem v_lst {K mg} : OpV K mg (fun vs H Q => vs.length ≤ sizeLine ∧ ∀ p, H p = none → Q (.ref p) (upd H p (.lst vs))) gLst := by
  intro ρ s H ds vs a f d w r h e Q q
  unfold Zm.gLst at e
  split at e
  · rename_i z
    cases e
    exact ⟨by rw [← r.length]; exact z, fun p hp => q _ _ _ _ (same_upd hp) (new_lst w hp r h).1 (new_lst w hp r h).2⟩
  · cases e
theorem s_tup {x1} (h : SA X W es ms) : SE X W (.Tuple es x1 pos) (mOp Zm.gTup ms) := PE.imp (pe_tup h) fun σ H Q q => rA_op v_tup q
theorem s_lst (h : SA X W es ms) : SE X W (.List es pos) (mOp Zm.gLst ms) := PE.imp (pe_lst h) fun σ H Q q => rA_op v_lst q
/-- a list that is kept in the store -/
def mBox (ms : List M) : M := fun σ s => (mArgs ms σ s).bind fun ds s' => if ds.length ≤ sizeLine ∧ plains ds = true then .ok (.box s'.length) (s' ++ [ds]) else .bad
theorem s_box (h : SA X W es ms) : SE X W (.List es pos) (mBox ms) := PE.imp (pe_lst h) fun σ H Q q => by
  obtain ⟨σm, s, ρ, A, F, rel, q⟩ := q
  refine ⟨σm, s, ρ, A, F, rel, ?_⟩
  unfold mBox at q
  cases e1 : mArgs ms σm s with
  | bad => rw [e1] at q; exact q
  | ex x s1 => rw [e1] at q; exact q
  | ok ds s1 =>
    rw [e1, Zm.R.bind_ok] at q
    intro vs H1 ρ1 a f fr wd rp g1
    by_cases hz : ds.length ≤ sizeLine ∧ plains ds = true
    · rw [if_pos hz] at q
      refine ⟨by rw [← rp.length]; exact hz.1, fun p hp => ?_⟩
      have sm : Same H1 (upd H1 p (.lst vs)) := Zm.same_upd hp
      have hn : p ∉ ρ1 := fun z => by obtain ⟨l, q⟩ := wd.lst z; rw [hp] at q; cases q
      have fr2 : Fr c0 H1 (upd H1 p (.lst vs)) ρ1 (ρ1 ++ [p]) := ⟨fun x o e => .inl (sm x o e), fun x e => sm.free e, [p], rfl, fun y hy => by simp at hy; subst hy; exact hp⟩
      have hc : ∀ {xs : List D} {ws : List V} {a f : Cnt}, Reps X.K X.mg H1 ρ1 xs ws a f → Reps X.K X.mg (upd H1 p (.lst vs)) (ρ1 ++ [p]) xs ws a f := fun r => r.frame fr2 fun _ hx => no0 hx
      refine q (.ref p) _ (ρ1 ++ [p]) c0 c0 (fr.trans fr2 fun _ hx => no0 hx) ⟨by simp [wd.len], ?_, fun n p' xs e1 e2 => ?_⟩ (.box ?_ (fun _ => rfl) (fun _ => rfl)) (.zero (fun _ => rfl) (fun _ => rfl))
      · rw [List.nodup_append]
        exact ⟨wd.nd, by simp, fun a ha b hb => by simp at hb; subst hb; exact fun z => hn (z ▸ ha)⟩
      · by_cases hl : n < s1.length
        · rw [List.getElem?_append_left (by rw [wd.len]; exact hl)] at e1
          rw [List.getElem?_append_left hl] at e2
          obtain ⟨z, ws, a', f', z1, z2⟩ := wd.at_ n p' xs e1 e2
          exact ⟨z, ws, a', f', sm _ _ z1, hc z2⟩
        · have e : n = s1.length := by
            have := (List.getElem?_eq_some_iff.mp e2).1
            simp at this; omega
          subst e
          rw [← wd.len] at e1
          simp [wd.len] at e1 e2
          subst e1 e2
          exact ⟨hz.2, vs, a, f, upd_same, hc rp⟩
      · rw [← wd.len]; simp
    · rw [if_neg hz] at q; exact q.elim
end
end Zm
set_option Elab.async false
set_option linter.all false
set_option maxRecDepth 100000
set_option autoImplicit false
/-! Z2: tests, chains, conditional values; statements. -/
namespace Zm
open PySem PySem.Spec PyProof.Rows L2
abbrev T := Env → Sto → R Bool
section
variable {K : PySem.W.Frag} {mg : Str → Option Value} {H : Hp} {ρ : List Addr} {x y z : D} {vs : List V} {A F : Cnt}
theorem Reps.inv0 (h : Reps K mg H ρ [] vs A F) : vs = [] ∧ ∀ p, A p = 0 ∧ F p = 0 := by
  cases h with
  | nil a f => exact ⟨rfl, fun p => ⟨a p, f p⟩⟩
theorem Reps.inv1 (h : Reps K mg H ρ [x] vs A F) : ∃ vx, vs = [vx] ∧ Rep K mg H ρ x vx A F := by
  cases h with
  | cons h t e1 e2 =>
    obtain ⟨rfl, z⟩ := Reps.inv0 t
    exact ⟨_, rfl, h.cong (fun p => by rw [e1, (z p).1]; rfl) (fun p => by rw [e2, (z p).2]; rfl)⟩
theorem Reps.inv2 (h : Reps K mg H ρ [x, y] vs A F) : ∃ vx vy ax fx ay fy, vs = [vx, vy] ∧ Rep K mg H ρ x vx ax fx ∧ Rep K mg H ρ y vy ay fy ∧ ∀ p, A p = ax p + ay p ∧ F p = fx p + fy p := by
  cases h with
  | cons h t e1 e2 =>
    obtain ⟨vy, rfl, r⟩ := Reps.inv1 t
    exact ⟨_, vy, _, _, _, _, rfl, h, r, fun p => ⟨e1 p, e2 p⟩⟩
theorem Reps.inv3 (h : Reps K mg H ρ [x, y, z] vs A F) : ∃ vx vy vz ax fx ay fy az fz, vs = [vx, vy, vz] ∧ Rep K mg H ρ x vx ax fx ∧ Rep K mg H ρ y vy ay fy ∧ Rep K mg H ρ z vz az fz ∧ ∀ p, A p = ax p + (ay p + az p) ∧ F p = fx p + (fy p + fz p) := by
  cases h with
  | cons h t e1 e2 =>
    obtain ⟨vy, vz, ay, fy, az, fz, rfl, r1, r2, q⟩ := Reps.inv2 t
    exact ⟨_, vy, vz, _, _, ay, fy, az, fz, rfl, h, r1, r2, fun p => ⟨by rw [e1, (q p).1], by rw [e2, (q p).2]⟩⟩
end
section
variable {K : PySem.W.Frag} {mg : Str → Option Value} {W : WX} {H H' H1 : Hp} {ρ ρ' ρ1 : List Addr} {σm : Env} {σ : L2.St} {s s' s1 : Sto} {d e : D} {ds es : List D} {v : V} {vs ws : List V} {A F A' F' a f Mc : Cnt}
theorem Gd.step (fr : Fr c0 H H1 ρ ρ1) (g : Gd A F H1 a f) : Gd A F H a f := fun x => by
  obtain ⟨p, q, r⟩ := g x
  exact ⟨p, fun h => ⟨(q h).1, fr.there x (q h).2⟩, fun h => (r h).elim .inl fun z => z.elim (fun z => .inr (.inl z)) fun z => .inr (.inr (fr.there x z))⟩
theorem oE.step {Q : VK} {r : R D} (fr : Fr c0 H H1 ρ ρ1) (h : oE K mg W σ A F H ρ Q r) : oE K mg W σ A F H1 ρ1 Q r := by
  cases r with
  | bad => exact h
  | ex x s => exact fun cls dd H' ρ' fr' => h cls dd H' ρ' (fr.tr fr')
  | ok d s => exact fun v H' ρ' a f fr' wd rp g => h v H' ρ' a f (fr.tr fr') wd rp (g.step fr)
section
variable (K : PySem.W.Frag) (mg : Str → Option Value) (W : WX) (σ : L2.St) (A F : Cnt) (H : Hp) (ρ : List Addr)
def oT (Q : Bool → Hp → Prop) : R Bool → Prop
  | .ok b s' => ∀ H' ρ', Fr c0 H H' ρ ρ' → Wd K mg ρ' s' H' → Q b H'
  | .ex x s' => ∀ cls dd H' ρ', Fr c0 H H' ρ ρ' → Wd K mg ρ' s' H' → RepX mg H' x cls dd → W cls dd σ H'
  | .bad => False
end
theorem oT.step {Q : Bool → Hp → Prop} {r : R Bool} (fr : Fr c0 H H1 ρ ρ1) (h : oT K mg W σ H ρ Q r) : oT K mg W σ H1 ρ1 Q r := by
  cases r with
  | bad => exact h
  | ex x s => exact fun cls dd H' ρ' fr' => h cls dd H' ρ' (fr.tr fr')
  | ok d s => exact fun H' ρ' fr' => h H' ρ' (fr.tr fr')
variable (K mg W) in
def rT (t : T) : TT := fun σ H Q => ∃ σm s ρ A F, Rel K mg σm s σ H ρ A F ∧ oT K mg W σ H ρ Q (t σm s)
end
def ST (X : Cx) (W : WX) (e : Expr) (t : T) : Prop := PT X e (rT X.K X.mg W t)
def SW (X : Cx) (W : WX) (e : Expr) (t : T) : Prop := PW X e (rT X.K X.mg W t)
theorem PW.imp {X : Cx} {e : Expr} {t t' : TT} (h : PW X e t) (q : ∀ σ H Q, t' σ H Q → t σ H Q) : PW X e t' := ⟨fun wh pins s σ H Q I w => h.run wh pins s σ H Q I (q σ H Q w)⟩
@[simp] def tV (m : M) : T := fun σ s => (m σ s).bind fun d s' => match d with
  | .bl b => .ok b s'
  | _ => .bad
@[simp] def tAnd (t u : T) : T := fun σ s => (t σ s).bind fun b s' => if b = true then u σ s' else .ok false s'
@[simp] def tOr (t u : T) : T := fun σ s => (t σ s).bind fun b s' => if b = true then .ok true s' else u σ s'
@[simp] def tNot (t : T) : T := fun σ s => (t σ s).bind fun b s' => .ok (!b) s'
@[simp] def mIfE (t : T) (a b : M) : M := fun σ s => (t σ s).bind fun c s' => if c = true then a σ s' else b σ s'
@[simp] def mAnd (a b : M) : M := fun σ s => (a σ s).bind fun d s' => match d with
  | .bl true => b σ s'
  | .bl false => .ok (.bl false) s'
  | _ => .bad
@[simp] def mOr (a b : M) : M := fun σ s => (a σ s).bind fun d s' => match d with
  | .bl true => .ok (.bl true) s'
  | .bl false => b σ s'
  | _ => .bad
@[simp] def mNot (a : M) : M := fun σ s => (a σ s).bind fun d s' => match d with
  | .bl b => .ok (.bl (!b)) s'
  | _ => .bad
/-- a op b op' c: b reckoned once -/
def mChain (g g' : Sto → List D → Option D) (a b c : M) : M := fun σ s => (mArgs [a, b] σ s).bind fun ds s' => match ds with
  | [x, y] => (R.of (g s' [x, y]) s').bind fun z s2 => match z with
    | .bl true => (c σ s2).bind fun w s3 => R.of (g' s3 [y, w]) s3
    | .bl false => .ok (.bl false) s2
    | _ => .bad
  | _ => .bad
section
variable {K : PySem.W.Frag} {mg : Str → Option Value} {W : WX} {σ : L2.St} {H : Hp} {m a b c : M} {t u : T}
theorem rT_val {Q : Bool → Hp → Prop} (h : rT K mg W (tV m) σ H Q) : rE K mg W m σ H fun x H1 => ∃ k, x = .bl k ∧ Q k H1 := by
  obtain ⟨σm, s, ρ, A, F, rel, h⟩ := h
  refine ⟨σm, s, ρ, A, F, rel, ?_⟩
  unfold tV at h
  cases e : m σm s with
  | bad => rw [e] at h; exact h
  | ex x s1 => rw [e] at h; exact h
  | ok d s1 =>
    rw [e, Zm.R.bind_ok] at h
    intro v H1 ρ1 a f fr wd rp g
    cases d <;> first | exact (h.elim) | skip
    cases rp
    exact ⟨_, rfl, h H1 ρ1 fr wd⟩
theorem rT_and {Q : Bool → Hp → Prop} (h : rT K mg W (tAnd t u) σ H Q) : rT K mg W t σ H fun c H1 => if c = true then rT K mg W u σ H1 Q else Q false H1 := by
  obtain ⟨σm, s, ρ, A, F, rel, h⟩ := h
  refine ⟨σm, s, ρ, A, F, rel, ?_⟩
  unfold Zm.tAnd at h
  cases e : t σm s with
  | bad => rw [e] at h; exact h
  | ex x s1 => rw [e] at h; exact h
  | ok d s1 =>
    rw [e, Zm.R.bind_ok] at h
    intro H1 ρ1 fr wd
    cases d with
    | true => exact iteT ⟨σm, s1, ρ1, A, F, rel.next fr wd, oT.step fr (by simpa using h)⟩
    | false => exact iteF ((show oT K mg W σ H ρ Q (.ok false s1) by simpa using h) H1 ρ1 fr wd)
theorem rT_or {Q : Bool → Hp → Prop} (h : rT K mg W (tOr t u) σ H Q) : rT K mg W t σ H fun c H1 => if c = true then Q true H1 else rT K mg W u σ H1 Q := by
  obtain ⟨σm, s, ρ, A, F, rel, h⟩ := h
  refine ⟨σm, s, ρ, A, F, rel, ?_⟩
  unfold Zm.tOr at h
  cases e : t σm s with
  | bad => rw [e] at h; exact h
  | ex x s1 => rw [e] at h; exact h
  | ok d s1 =>
    rw [e, Zm.R.bind_ok] at h
    intro H1 ρ1 fr wd
    cases d with
    | true => exact iteT ((show oT K mg W σ H ρ Q (.ok true s1) by simpa using h) H1 ρ1 fr wd)
    | false => exact iteF ⟨σm, s1, ρ1, A, F, rel.next fr wd, oT.step fr (by simpa using h)⟩
theorem rT_not {Q : Bool → Hp → Prop} (h : rT K mg W (tNot t) σ H Q) : rT K mg W t σ H fun c H1 => Q (!c) H1 := by
  obtain ⟨σm, s, ρ, A, F, rel, h⟩ := h
  refine ⟨σm, s, ρ, A, F, rel, ?_⟩
  unfold Zm.tNot at h
  cases e : t σm s with
  | bad => rw [e] at h; exact h
  | ex x s1 => rw [e] at h; exact h
  | ok d s1 => rw [e, Zm.R.bind_ok] at h; exact h
theorem rE_if {Q : VK} (h : rE K mg W (mIfE t a b) σ H Q) : rT K mg W t σ H fun c H1 => if c = true then rE K mg W a σ H1 Q else rE K mg W b σ H1 Q := by
  obtain ⟨σm, s, ρ, A, F, rel, h⟩ := h
  refine ⟨σm, s, ρ, A, F, rel, ?_⟩
  unfold mIfE at h
  cases e : t σm s with
  | bad => rw [e] at h; exact h
  | ex x s1 => rw [e] at h; exact h
  | ok d s1 =>
    rw [e, Zm.R.bind_ok] at h
    intro H1 ρ1 fr wd
    cases d with
    | true => exact iteT ⟨σm, s1, ρ1, A, F, rel.next fr wd, oE.step fr (by simpa using h)⟩
    | false => exact iteF ⟨σm, s1, ρ1, A, F, rel.next fr wd, oE.step fr (by simpa using h)⟩
theorem rE_and {Q : VK} (h : rE K mg W (mAnd a b) σ H Q) : rE K mg W a σ H fun x H1 => ∃ c, x = .bl c ∧ if c = true then rE K mg W b σ H1 Q else Q (.bl false) H1 := by
  obtain ⟨σm, s, ρ, A, F, rel, h⟩ := h
  refine ⟨σm, s, ρ, A, F, rel, ?_⟩
  unfold mAnd at h
  cases e : a σm s with
  | bad => rw [e] at h; exact h
  | ex x s1 => rw [e] at h; exact h
  | ok d s1 =>
    rw [e, Zm.R.bind_ok] at h
    intro v H1 ρ1 a f fr wd rp g
    cases d <;> first | exact (h.elim) | skip
    rename_i c
    cases rp
    cases c with
    | true => exact ⟨true, rfl, iteT ⟨σm, s1, ρ1, A, F, rel.next fr wd, oE.step fr h⟩⟩
    | false => exact ⟨false, rfl, iteF (h (.bl false) H1 ρ1 c0 c0 fr wd (.bl (fun _ => rfl) (fun _ => rfl)) (.zero (fun _ => rfl) (fun _ => rfl)))⟩
theorem rE_not {Q : VK} (h : rE K mg W (mNot a) σ H Q) : rE K mg W a σ H fun x H1 => ∃ c, x = .bl c ∧ Q (.bl (!c)) H1 := by
  obtain ⟨σm, s, ρ, A, F, rel, h⟩ := h
  refine ⟨σm, s, ρ, A, F, rel, ?_⟩
  unfold mNot at h
  cases e : a σm s with
  | bad => rw [e] at h; exact h
  | ex x s1 => rw [e] at h; exact h
  | ok d s1 =>
    rw [e, Zm.R.bind_ok] at h
    intro v H1 ρ1 a f fr wd rp g
    cases d <;> first | exact (h.elim) | skip
    rename_i c
    cases rp
    exact ⟨c, rfl, h (.bl (!c)) H1 ρ1 c0 c0 fr wd (.bl (fun _ => rfl) (fun _ => rfl)) (.zero (fun _ => rfl) (fun _ => rfl))⟩
/-- two of a chain: r on x y, then r' on y and c's -/
theorem rE_chain {r r' : R2} {g g' : Sto → List D → Option D} (hv : OpV K mg (r2 r) g) (hv' : OpV K mg (r2 r') g') {Q : VK} (h : rE K mg W (mChain g g' a b c) σ H Q) :
    rA K mg W (mArgs [a, b]) σ H fun vs H2 => ∃ x y, vs = [x, y] ∧ r x y H2 fun z H3 => ∃ k, z = .bl k ∧ (if k = true then rE K mg W c σ H3 fun w' H4 => r' y w' H4 Q else Q (.bl false) H3) := by
  obtain ⟨σm, s, ρ, A, F, rel, h⟩ := h
  refine ⟨σm, s, ρ, A, F, rel, ?_⟩
  unfold mChain at h
  cases e : mArgs [a, b] σm s with
  | bad => rw [e] at h; exact h
  | ex x s1 => rw [e] at h; exact h
  | ok ds s1 =>
    rw [e, Zm.R.bind_ok] at h
    intro vs H1 ρ1 a1 f1 fr wd rp gd
    match ds, rp, h with
    | [x, y], rp, h =>
      have rpp := rp
      obtain ⟨vx, vy, ax, fx, ay, fy, ev, rx, ry, e12⟩ := rp.inv2
      subst ev
      refine ⟨_, _, rfl, ?_⟩
      cases eg : g s1 [x, y] with
      | none => simp only [eg, R.of_none, R.bind_bad] at h; exact h.elim
      | some z =>
        simp only [eg, R.of_some, R.bind_ok] at h
        obtain ⟨x', y', ex, q⟩ := hv ρ1 s1 H1 _ _ a1 f1 z wd rpp gd.sp eg (fun z H3 => ∃ k, z = .bl k ∧ (if k = true then rE K mg W c σ H3 fun w' H4 => r' vy w' H4 Q else Q (.bl false) H3)) fun v H2 a' f' sm rz ou => by
          have fr2 : Fr c0 H H2 ρ ρ1 := fr.tr (Fr.of_same sm)
          cases z <;> first | exact (h.elim) | skip
          rename_i k
          cases rz
          refine ⟨k, rfl, ?_⟩
          cases k with
          | false => exact iteF (h (.bl false) H2 ρ1 c0 c0 fr2 (wd.same sm) (.bl (fun _ => rfl) (fun _ => rfl)) (.zero (fun _ => rfl) (fun _ => rfl)))
          | true =>
            refine iteT ⟨σm, s1, ρ1, A, F, rel.next fr2 (wd.same sm), ?_⟩
            cases ec : c σm s1 with
            | bad => simp only [ec, R.bind_bad] at h; exact h
            | ex x s2 => simp only [ec, R.bind_ex] at h; exact oE.step fr2 h
            | ok w s2 =>
              simp only [ec, R.bind_ok] at h
              intro vw H3 ρ3 a3 f3 fr3 wd3 rw3 g3
              cases eg' : g' s2 [y, w] with
              | none => simp only [eg', R.of_none] at h; exact h.elim
              | some zz =>
                simp only [eg', R.of_some] at h
                have ry3 : Rep K mg H3 ρ3 y vy ay fy := (ry.sm sm).on fr3
                -- the counts of y and w together
                have gy : Gd A F H ay fy := fun p => by
                  obtain ⟨g1, g2, g3⟩ := gd p
                  have q1 := e12 p
                  have i1 : ay p ≤ a1 p := by omega
                  have i2 : fy p ≤ f1 p := by omega
                  exact ⟨by omega, fun z => ⟨by have := (g2 (by omega)).1; omega, (g2 (by omega)).2⟩, fun z => g3 (by omega)⟩
                have g3' : Gd A F H a3 f3 := Gd.step fr2 g3
                have gg : Gd A F H (fun p => ay p + (a3 p + 0)) (fun p => fy p + (f3 p + 0)) := fun p => by
                  obtain ⟨p1, p2, p3⟩ := gy p
                  obtain ⟨q1, q2, q3⟩ := g3 p
                  have th := (ry.sm sm).there p
                  have ev := rel.env.there p
                  have n1 : H2 p = none → H p = none := fr2.there p
                  dsimp only
                  by_cases ha : 1 ≤ ay p
                  · obtain ⟨⟨o, ho⟩, _⟩ := th (by omega)
                    have z2 : a3 p = 0 := by
                      cases q : a3 p with
                      | zero => rfl
                      | succ k => have := (q2 (by omega)).2; rw [ho] at this; cases this
                    have z3 : f3 p = 0 := by
                      cases q : f3 p with
                      | zero => rfl
                      | succ k =>
                        have hn := (p2 ha).2
                        rcases q3 (by omega) with z | z | z
                        · obtain ⟨⟨o', ho'⟩, _⟩ := ev (by omega); rw [hn] at ho'; cases ho'
                        · obtain ⟨⟨o', ho'⟩, _⟩ := ev (by omega); rw [hn] at ho'; cases ho'
                        · rw [ho] at z; cases z
                    have := p2 ha
                    exact ⟨by omega, fun _ => ⟨by omega, this.2⟩, fun h => by omega⟩
                  · refine ⟨by omega, fun h => ?_, fun h => ?_⟩
                    · have z := q2 (by omega)
                      have zf : fy p = 0 := by
                        cases q : fy p with
                        | zero => rfl
                        | succ k => obtain ⟨⟨o, ho⟩, _⟩ := th (by omega); rw [z.2] at ho; cases ho
                      exact ⟨by omega, n1 z.2⟩
                    · by_cases z : 1 ≤ fy p
                      · exact p3 z
                      · rcases q3 (by omega) with y | y | y
                        · exact .inl y
                        · exact .inr (.inl y)
                        · exact .inr (.inr (n1 y))
                obtain ⟨x2, y2, ex2, q2⟩ := hv' ρ3 s2 H3 [y, w] [vy, vw] _ _ zz wd3 (.cons ry3 (Reps.cons rw3 (.nil (A := c0) (F := c0) (fun _ => rfl) (fun _ => rfl)) (A := fun p => a3 p + 0) (F := fun p => f3 p + 0) (fun _ => rfl) (fun _ => rfl)) (A := fun p => ay p + (a3 p + 0)) (F := fun p => fy p + (f3 p + 0)) (fun _ => rfl) (fun _ => rfl)) gg.sp eg' Q
                  fun v H4 a' f' sm4 rz4 ou4 => h v H4 ρ3 a' f' ((fr2.tr fr3).tr (Fr.of_same sm4)) (wd3.same sm4) rz4 (gg.out (fr2.tr fr3) ou4)
                cases ex2
                exact q2
        cases ex
        exact q
end
section
variable {X : Cx} {W : WX} {e : Expr} {es : List Expr} {m ma mb mc : M} {t u : T} {pos : Pos} {rest : List Expr} {a b c : Expr}
theorem st_val (h : SE X W e m) (he : ∀ whole, isTrue e X.env whole = (do let v ← whole; standAt e.pos; holding [v] (truthy v)) := by intro _; rfl) : ST X W e (tV m) := PT.imp (pt_val h he) fun σ H Q q => rT_val q
theorem st_cmp {op : CmpOp} {r : R2} {g : Sto → List D → Option D} (ho : OpR X (compareOp op) r) (hv : OpV X.K X.mg (r2 r) g) (ha : SE X W a ma) (hb : SE X W b mb) (hm : behindInMarks op b = false := by first | exact nomark _ | rfl) : ST X W (.Compare a [op] [b] pos) (tV (mOp g [ma, mb])) :=
  PT.imp (pt_cmpR ho ha hb hm) fun σ H Q h => rE_mono (rA_2 (rA_op hv (rT_val h))) fun v H1 q => rE_mono q fun u H2 ⟨x, y, e, z⟩ => by cases e; exact z
theorem sw_and1 (ha : ST X W a t) : SW X W (.BoolOp .And [a] pos) t := pw_and1 ha
theorem sw_or1 (ha : ST X W a t) : SW X W (.BoolOp .Or [a] pos) t := pw_or1 ha
theorem sw_and (ha : ST X W a t) (hb : SW X W (.BoolOp .And (b :: rest) pos) u) : SW X W (.BoolOp .And (a :: b :: rest) pos) (tAnd t u) := PW.imp (pw_and ha hb) fun σ H Q h => rT_and h
theorem sw_or (ha : ST X W a t) (hb : SW X W (.BoolOp .Or (b :: rest) pos) u) : SW X W (.BoolOp .Or (a :: b :: rest) pos) (tOr t u) := PW.imp (pw_or ha hb) fun σ H Q h => rT_or h
theorem SW.st (h : SW X W e t) : ST X W e t := PW.pt h
theorem st_not (h : ST X W a t) : ST X W (.UnaryOp .Not a pos) (tNot t) := PT.imp (pt_not h) fun σ H Q q => rT_not q
theorem s_if (hc : ST X W c t) (ha : SE X W a ma) (hb : SE X W b mb) : SE X W (.IfExp c a b pos) (mIfE t ma mb) := PE.imp (pe_ifExp hc ha hb) fun σ H Q q => rE_if q
theorem s_one {op} (h : SE X W a ma) : SE X W (.BoolOp op [a] pos) ma := pe_one h
theorem s_and (ha : SE X W a ma) (hb : SE X W (.BoolOp .And (b :: rest) pos) mb) : SE X W (.BoolOp .And (a :: b :: rest) pos) (mAnd ma mb) := PE.imp (pe_and ha hb) fun σ H Q q => rE_and q
theorem s_not (ha : SE X W a ma) : SE X W (.UnaryOp .Not a pos) (mNot ma) := PE.imp (pe_not ha) fun σ H Q q => rE_not q
theorem s_chain {op op' : CmpOp} {r r' : R2} {g g' : Sto → List D → Option D} (ho : OpR X (compareOp op) r) (ho' : OpR X (compareOp op') r') (hv : OpV X.K X.mg (r2 r) g) (hv' : OpV X.K X.mg (r2 r') g') (ha : SE X W a ma) (hb : SE X W b mb) (hc : SE X W c mc)
    (h1 : behindInMarks op' c = false := by first | exact nomark _ | rfl) : SE X W (.Compare a [op, op'] [b, c] pos) (mChain g g' ma mb mc) :=
  PE.imp (pe_chain ho ho' ha hb hc h1) fun σ H Q h => rE_mono (rA_2 (rE_chain hv hv' h)) fun v H1 q => rE_mono q fun u H2 ⟨x, y, e, z⟩ => by cases e; exact z
theorem st_chain {op op' : CmpOp} {r r' : R2} {g g' : Sto → List D → Option D} (ho : OpR X (compareOp op) r) (ho' : OpR X (compareOp op') r') (hv : OpV X.K X.mg (r2 r) g) (hv' : OpV X.K X.mg (r2 r') g') (ha : SE X W a ma) (hb : SE X W b mb) (hc : SE X W c mc)
    (h1 : behindInMarks op' c = false := by first | exact nomark _ | rfl) : ST X W (.Compare a [op, op'] [b, c] pos) (tV (mChain g g' ma mb mc)) :=
  PT.imp (pt_chain ho ho' ha hb hc h1) fun σ H Q h => rE_mono (rA_2 (rE_chain hv hv' (rT_val h))) fun v H1 q => rE_mono q fun u H2 ⟨x, y, e, z⟩ => by cases e; exact z
end
end Zm
set_option Elab.async false
set_option linter.all false
set_option maxRecDepth 100000
set_option autoImplicit false
/-! Z3: statements. -/
namespace Zm
open PySem PySem.Spec PyProof.Rows L2
inductive RS where
  | nx (σ : Env) (s : Sto) | rt (d : D) (s : Sto) | bk (σ : Env) (s : Sto) | ct (σ : Env) (s : Sto) | ex (x : Xc) (σ : Env) (s : Sto) | bad
abbrev MS := Env → Sto → RS
def R.to {α : Type} (r : R α) (σ : Env) (k : α → Sto → RS) : RS := match r with
  | .ok a s => k a s
  | .ex x s => .ex x σ s
  | .bad => .bad
@[simp] theorem R.to_ok {α : Type} {a : α} {s : Sto} {σ : Env} {k : α → Sto → RS} : (R.ok a s).to σ k = k a s := rfl
@[simp] theorem R.to_ex {α : Type} {x : Xc} {s : Sto} {σ : Env} {k : α → Sto → RS} : (R.ex x s : R α).to σ k = .ex x σ s := rfl
@[simp] theorem R.to_bad {α : Type} {σ : Env} {k : α → Sto → RS} : (R.bad : R α).to σ k = .bad := rfl
def RS.then (r : RS) (k : Env → Sto → RS) : RS := match r with
  | .nx σ s => k σ s
  | r => r
@[simp] theorem RS.then_nx {σ : Env} {s : Sto} {k : Env → Sto → RS} : (RS.nx σ s).then k = k σ s := rfl
@[simp] theorem RS.then_rt {d : D} {s : Sto} {k : Env → Sto → RS} : (RS.rt d s).then k = .rt d s := rfl
@[simp] theorem RS.then_bk {σ : Env} {s : Sto} {k : Env → Sto → RS} : (RS.bk σ s).then k = .bk σ s := rfl
@[simp] theorem RS.then_ct {σ : Env} {s : Sto} {k : Env → Sto → RS} : (RS.ct σ s).then k = .ct σ s := rfl
@[simp] theorem RS.then_ex {x : Xc} {σ : Env} {s : Sto} {k : Env → Sto → RS} : (RS.ex x σ s).then k = .ex x σ s := rfl
@[simp] theorem RS.then_bad {k : Env → Sto → RS} : RS.bad.then k = .bad := rfl
/-- what may newly be held, as against before -/
def Nx (A F : Cnt) (H : Hp) (A' F' : Cnt) : Prop := ∀ x, (1 ≤ A' x → 1 ≤ A x ∨ H x = none) ∧ (1 ≤ F' x → 1 ≤ A x ∨ 1 ≤ F x ∨ H x = none)
section
variable {K : PySem.W.Frag} {mg : Str → Option Value} {W : WX} {H H' H1 : Hp} {ρ ρ' ρ1 : List Addr} {σm : Env} {σ : L2.St} {s s' s1 : Sto} {d e : D} {ds es : List D} {v : V} {vs ws : List V} {A F A' F' A1 F1 a f Mc : Cnt}
theorem Nx.refl : Nx A F H A F := fun x => ⟨fun h => .inl h, fun h => .inr (.inl h)⟩
theorem Nx.trans (n : Nx A F H A1 F1) (fr : Fr A H H1 ρ ρ1) (m : Nx A1 F1 H1 A' F') : Nx A F H A' F' := fun x => by
  obtain ⟨p, q⟩ := n x
  obtain ⟨r, t⟩ := m x
  refine ⟨fun h => ?_, fun h => ?_⟩
  · rcases r h with z | z
    · exact p z
    · exact .inr (fr.there x z)
  · rcases t h with z | z | z
    · rcases p z with y | y
      · exact .inl y
      · exact .inr (.inr y)
    · exact q z
    · exact .inr (.inr (fr.there x z))
theorem Fr.thenN (fr : Fr A H H1 ρ ρ1) (n : Nx A F H A1 F1) (fr2 : Fr A1 H1 H' ρ1 ρ') : Fr A H H' ρ ρ' := fr.trans fr2 fun x h => (n x).1 h
theorem Fr.up (fr : Fr c0 H H1 ρ ρ1) : Fr A H H1 ρ ρ1 := fr.mono fun _ h => no0 h
section
variable (K : PySem.W.Frag) (mg : Str → Option Value) (W : WX) (A F : Cnt) (H : Hp) (ρ : List Addr)
def oS (D : Ends) : RS → Prop
  | .nx σm' s' => ∀ σ' H' ρ' A' F', Fr A H H' ρ ρ' → Rel K mg σm' s' σ' H' ρ' A' F' → Nx A F H A' F' → D.nx σ' H'
  | .bk σm' s' => ∀ σ' H' ρ' A' F', Fr A H H' ρ ρ' → Rel K mg σm' s' σ' H' ρ' A' F' → Nx A F H A' F' → D.bk σ' H'
  | .ct σm' s' => ∀ σ' H' ρ' A' F', Fr A H H' ρ ρ' → Rel K mg σm' s' σ' H' ρ' A' F' → Nx A F H A' F' → D.ct σ' H'
  | .rt d s' => ∀ v H' ρ' a f, Fr A H H' ρ ρ' → Wd K mg ρ' s' H' → Rep K mg H' ρ' d v a f → Out A F H a f → D.rt v H'
  | .ex x σm' s' => ∀ cls dd σ' H' ρ' A' F', Fr A H H' ρ ρ' → Rel K mg σm' s' σ' H' ρ' A' F' → Nx A F H A' F' → RepX mg H' x cls dd → W cls dd σ' H'
  | .bad => False
end
variable (K mg W) in
def rS (m : MS) : TS := fun D σ H => ∃ σm s ρ A F, Rel K mg σm s σ H ρ A F ∧ oS K mg W A F H ρ D (m σm s)
theorem Out.stepN (fr : Fr A H H1 ρ ρ1) (n : Nx A F H A1 F1) (o : Out A1 F1 H1 a f) : Out A F H a f := fun x => by
  obtain ⟨p, q, r⟩ := o x
  refine ⟨p, fun h => ⟨(q h).1, ?_⟩, fun h => ?_⟩
  · rcases (q h).2 with z | z
    · exact .inl (fr.there x z)
    · exact ((n x).1 z).elim .inr .inl
  · rcases r h with z | z | z
    · exact ((n x).1 z).elim .inl fun z => .inr (.inr z)
    · exact (n x).2 z
    · exact .inr (.inr (fr.there x z))
theorem oS.step {D : Ends} {r : RS} (fr : Fr A H H1 ρ ρ1) (n : Nx A F H A1 F1) (h : oS K mg W A F H ρ D r) : oS K mg W A1 F1 H1 ρ1 D r := by
  cases r with
  | bad => exact h
  | nx σ s => exact fun σ' H' ρ' A' F' fr' r' n' => h σ' H' ρ' A' F' (fr.thenN n fr') r' (n.trans fr n')
  | bk σ s => exact fun σ' H' ρ' A' F' fr' r' n' => h σ' H' ρ' A' F' (fr.thenN n fr') r' (n.trans fr n')
  | ct σ s => exact fun σ' H' ρ' A' F' fr' r' n' => h σ' H' ρ' A' F' (fr.thenN n fr') r' (n.trans fr n')
  | rt d s => exact fun v H' ρ' a f fr' wd rp o => h v H' ρ' a f (fr.thenN n fr') wd rp (o.stepN fr n)
  | ex x σ s => exact fun cls dd σ' H' ρ' A' F' fr' r' n' => h cls dd σ' H' ρ' A' F' (fr.thenN n fr') r' (n.trans fr n')
theorem oS.imp {D D' : Ends} {r : RS} (h : oS K mg W A F H ρ D r) (h1 : ∀ σ H, D.nx σ H → D'.nx σ H) (h2 : ∀ v H, D.rt v H → D'.rt v H) (h3 : ∀ σ H, D.bk σ H → D'.bk σ H) (h4 : ∀ σ H, D.ct σ H → D'.ct σ H) : oS K mg W A F H ρ D' r := by
  cases r with
  | bad => exact h
  | nx σ s => exact fun σ' H' ρ' A' F' a b c => h1 _ _ (h σ' H' ρ' A' F' a b c)
  | bk σ s => exact fun σ' H' ρ' A' F' a b c => h3 _ _ (h σ' H' ρ' A' F' a b c)
  | ct σ s => exact fun σ' H' ρ' A' F' a b c => h4 _ _ (h σ' H' ρ' A' F' a b c)
  | rt d s => exact fun v H' ρ' a f b c d e => h2 _ _ (h v H' ρ' a f b c d e)
  | ex x σ s => exact h
end
end Zm
namespace Zm
open PySem PySem.Spec PyProof.Rows L2
def SS (X : Cx) (W : WX) (e : Stmt) (m : MS) : Prop := PS X e (rS X.K X.mg W m)
def SSs (X : Cx) (W : WX) (e : List Stmt) (m : MS) : Prop := PSs X e (rS X.K X.mg W m)
@[simp] def mNil : MS := fun σ s => .nx σ s
@[simp] def mSeq (a b : MS) : MS := fun σ s => (a σ s).then b
def mSet (i : Nat) (m : M) : MS := fun σ s => (m σ s).to σ fun d s' => if noF d = true ∧ i < σ.length then .nx (σ.set i (some d)) s' else .bad
/-- a mask's slots alone; its slots frozen -/
@[simp] def restr : List Bool → Env → Env
  | [], σ => σ.map fun _ => none
  | _, [] => []
  | b :: bs, o :: σ => (if b = true then o else none) :: restr bs σ
@[simp] def frzE : List Bool → Env → Env
  | [], σ => σ
  | _, [] => []
  | b :: bs, o :: σ => (if b = true then o.map fz else o) :: frzE bs σ
def mSetF (msk : List Bool) (i : Nat) (m : M) : MS := fun σ s => (m (restr msk σ) s).to σ fun d s' => if i < σ.length then .nx ((frzE msk σ).set i (some (fz d))) s' else .bad
@[simp] def mIf (t : T) (a b : MS) : MS := fun σ s => (t σ s).to σ fun c s' => if c = true then a σ s' else b σ s'
@[simp] def mRet (m : M) : MS := fun σ s => (m σ s).to σ fun d s' => .rt d s'
@[simp] def mRetN : MS := fun _ s => .rt .non s
def mRetV (i : Nat) : MS := fun σ s => match σ[i]? with
  | some (some d) => .rt d s
  | _ => .bad
@[simp] def mDo (m : M) : MS := fun σ s => (m σ s).to σ fun _ s' => .nx σ s'
@[simp] def mBreak : MS := fun σ s => .bk σ s
@[simp] def mCont : MS := fun σ s => .ct σ s
def mApp (i : Nat) (m : M) : MS := fun σ s => match σ[i]? with
  | some (some (.lst true xs)) => (m σ s).to σ fun d s' => if xs.length < sizeLine ∧ noF d = true then .nx (σ.set i (some (.lst true (xs ++ [d])))) s' else .bad
  | _ => .bad
section
variable {K : PySem.W.Frag} {mg : Str → Option Value} {W : WX} {H H' H1 : Hp} {ρ ρ' ρ1 : List Addr} {σm : Env} {σ : L2.St} {s s' s1 : Sto} {d e : D} {v : V} {A F A' F' A1 F1 a f Mc : Cnt}
theorem frzE_length : ∀ {msk : List Bool} {σ : Env}, (frzE msk σ).length = σ.length
  | [], σ => by simp [frzE]
  | _ :: _, [] => by simp [frzE]
  | b :: bs, o :: σ => by simp [frzE, frzE_length (msk := bs) (σ := σ)]
/-- the slots in two parts: those of the mask may be frozen -/
theorem EnvR.none_of : ∀ {σm : Env} {σ : L2.St} {A F : Cnt}, EnvR K mg H ρ σm σ A F → EnvR K mg H ρ (σm.map fun _ => none) σ c0 c0
  | _, _, _, _, .nil _ _ => .nil (fun _ => rfl) (fun _ => rfl)
  | _, _, _, _, .no t => .no (EnvR.none_of t)
  | _, _, _, _, .yes _ t _ _ => .no (EnvR.none_of t)
theorem EnvR.mask : ∀ {msk : List Bool} {σm : Env} {σ : L2.St} {A F : Cnt}, EnvR K mg H ρ σm σ A F →
    ∃ Am Fm Ar F2, EnvR K mg H ρ (restr msk σm) σ Am Fm ∧ EnvR K mg H ρ (frzE msk σm) σ Ar F2 ∧ ∀ x, A x = Am x + Ar x ∧ Fm x ≤ F x ∧ (1 ≤ F2 x → 1 ≤ F x ∨ 1 ≤ Am x)
  | [], σm, σ, A, F, h => by
    refine ⟨c0, c0, A, F, ?_, by rw [frzE]; exact h, fun x => ⟨by simp [c0], by simp [c0], fun z => .inl z⟩⟩
    rw [restr]; exact h.none_of
  | b :: bs, _, _, A, F, .nil a f => ⟨A, F, c0, c0, .nil a f, .nil (fun _ => rfl) (fun _ => rfl), fun x => ⟨by simp [c0], Nat.le_refl _, fun z => no0 z⟩⟩
  | b :: bs, _, _, _, _, .no t => by
    obtain ⟨Am, Fm, Ar, F2, r1, r2, q⟩ := EnvR.mask (msk := bs) t
    refine ⟨Am, Fm, Ar, F2, ?_, ?_, q⟩
    · rw [restr]; split <;> exact .no r1
    · rw [frzE]; split <;> exact .no r2
  | true :: bs, _, _, _, _, .yes (a := a) (f := f) h t e1 e2 => by
    obtain ⟨Am, Fm, Ar, F2, r1, r2, q⟩ := EnvR.mask (msk := bs) t
    obtain ⟨f', h', q'⟩ := h.fz
    refine ⟨_, _, Ar, _, .yes h r1 (fun _ => rfl) (fun _ => rfl), .yes h' r2 (fun x => by show Ar x = c0 x + Ar x; simp [c0]) (fun _ => rfl), fun x => ?_⟩
    have z := q x
    have z' := q' x
    rw [e1, e2]
    refine ⟨by omega, by omega, fun y => ?_⟩
    have y : 1 ≤ f' x + F2 x := y
    by_cases w : 1 ≤ f' x
    · have := z' w; omega
    · have := z.2.2 (by omega); omega
  | false :: bs, _, _, _, _, .yes (a := a) (f := f) h t e1 e2 => by
    obtain ⟨Am, Fm, Ar, F2, r1, r2, q⟩ := EnvR.mask (msk := bs) t
    refine ⟨Am, Fm, _, _, .no r1, .yes h r2 (fun _ => rfl) (fun _ => rfl), fun x => ?_⟩
    have z := q x
    rw [e1, e2]
    refine ⟨by omega, by omega, fun y => ?_⟩
    have y : 1 ≤ f x + F2 x := y
    by_cases w : 1 ≤ f x
    · omega
    · have := z.2.2 (by omega); omega
/-- a slot stored with what is not frozen -/
theorem Rel.set (rel : Rel K mg σm s σ H ρ A F) (fr : Fr c0 H H1 ρ ρ1) (wd : Wd K mg ρ1 s1 H1) (rp : Rep K mg H1 ρ1 d v a f) (g : Gd A F H a f) (hf : ∀ x, f x = 0) (i : Nat) (hi : i < σm.length) :
    ∃ A' F', Rel K mg (σm.set i (some d)) s1 (σ.set i (some v)) H1 ρ1 A' F' ∧ Nx A F H A' F' := by
  have r1 := rel.next fr wd
  obtain ⟨A', F', e', le, _⟩ := r1.env.set i rp hi
  have ev := rel.env.there
  refine ⟨A', F', ⟨e', wd, fun x => ?_⟩, fun x => ?_⟩
  · have := le x
    have s0 := rel.sep x
    obtain ⟨g1, g2, g3⟩ := g x
    have h0 := hf x
    by_cases z : 1 ≤ a x
    · have hn := (g2 z).2
      have q : ¬ 1 ≤ A x + F x := fun y => by obtain ⟨⟨o, ho⟩, _⟩ := ev x y; rw [hn] at ho; cases ho
      omega
    · refine ⟨by omega, fun y => ?_⟩
      have := s0.2 (by omega)
      omega
  · have := le x
    have h0 := hf x
    obtain ⟨g1, g2, g3⟩ := g x
    refine ⟨fun y => ?_, fun y => by omega⟩
    by_cases z : 1 ≤ a x
    · exact .inr (g2 z).2
    · exact .inl (by omega)
/-- a slot stored with what may be frozen, the mask's slots frozen -/
theorem Rel.setF {msk : List Bool} {Am Fm Ar F2 : Cnt} (rel : Rel K mg σm s σ H ρ A F) (r2 : EnvR K mg H ρ (frzE msk σm) σ Ar F2) (q : ∀ x, A x = Am x + Ar x ∧ Fm x ≤ F x ∧ (1 ≤ F2 x → 1 ≤ F x ∨ 1 ≤ Am x))
    (fr : Fr c0 H H1 ρ ρ1) (wd : Wd K mg ρ1 s1 H1) (rp : Rep K mg H1 ρ1 d v a f) (g : Gd Am Fm H a f) (i : Nat) (hi : i < σm.length) :
    ∃ A' F', Rel K mg ((frzE msk σm).set i (some (fz d))) s1 (σ.set i (some v)) H1 ρ1 A' F' ∧ Nx A F H A' F' := by
  obtain ⟨f', rp', qf⟩ := rp.fz
  have e1 := r2.frame fr fun _ hx => no0 hx
  obtain ⟨A', F', e', le, _⟩ := e1.set i rp' (by rw [frzE_length]; exact hi)
  have ev := rel.env.there
  have key : ∀ x, 1 ≤ f' x → 1 ≤ Am x ∨ 1 ≤ Fm x ∨ H x = none := fun x h => by
    have := qf x h
    obtain ⟨g1, g2, g3⟩ := g x
    by_cases z : 1 ≤ a x
    · exact .inr (.inr (g2 z).2)
    · exact g3 (by omega)
  refine ⟨A', F', ⟨e', wd, fun x => ?_⟩, fun x => ?_⟩
  · have l := le x
    have l1 : A' x ≤ Ar x + 0 := l.1
    have l2 := l.2
    have s0 := rel.sep x
    have q0 := q x
    refine ⟨by omega, fun y => ?_⟩
    have hA : 1 ≤ A x := by omega
    have hF := s0.2 hA
    obtain ⟨⟨o, ho⟩, _⟩ := ev x (by omega)
    have h1 : F2 x = 0 := by
      cases z : F2 x with
      | zero => rfl
      | succ k => have := q0.2.2 (by omega); omega
    have h2 : f' x = 0 := by
      cases z : f' x with
      | zero => rfl
      | succ k =>
        rcases key x (by omega) with w | w | w
        · omega
        · omega
        · rw [w] at ho; cases ho
    omega
  · have l := le x
    have l1 : A' x ≤ Ar x + 0 := l.1
    have q0 := q x
    refine ⟨fun y => .inl (by omega), fun y => ?_⟩
    by_cases z : 1 ≤ f' x
    · rcases key x z with w | w | w
      · exact .inl (by omega)
      · exact .inr (.inl (by omega))
      · exact .inr (.inr w)
    · have := q0.2.2 (by omega)
      omega
theorem Rel.mask {msk : List Bool} (rel : Rel K mg σm s σ H ρ A F) : ∃ Am Fm Ar F2, Rel K mg (restr msk σm) s σ H ρ Am Fm ∧ EnvR K mg H ρ (frzE msk σm) σ Ar F2 ∧ ∀ x, A x = Am x + Ar x ∧ Fm x ≤ F x ∧ (1 ≤ F2 x → 1 ≤ F x ∨ 1 ≤ Am x) := by
  obtain ⟨Am, Fm, Ar, F2, r1, r2, q⟩ := EnvR.mask (msk := msk) rel.env
  exact ⟨Am, Fm, Ar, F2, ⟨r1, rel.wd, fun x => by have := rel.sep x; have := q x; exact ⟨by omega, fun z => by have := (rel.sep x).2 (by omega); omega⟩⟩, r2, q⟩
theorem EnvR.take : ∀ {σm : Env} {σ : L2.St} {A F : Cnt} {i : Nat} {d : D}, EnvR K mg H ρ σm σ A F → σm[i]? = some (some d) →
    ∃ v a f A2 F2, σ[i]? = some (some v) ∧ Rep K mg H ρ d v a f ∧ EnvR K mg H ρ (σm.set i none) σ A2 F2 ∧ ∀ x, A x = a x + A2 x ∧ F x = f x + F2 x
  | _, _, _, _, i, _, .nil _ _, e => by simp at e
  | _, _, _, _, 0, _, .no _, e => by simp at e
  | _, _, _, _, i + 1, _, .no t, e => by
    obtain ⟨v, a, f, A2, F2, q1, q2, q3, q4⟩ := EnvR.take t (i := i) (by simpa using e)
    exact ⟨v, a, f, A2, F2, by simpa using q1, q2, .no q3, q4⟩
  | _, _, _, _, 0, _, .yes h t e1 e2, e => by
    simp at e; subst e
    exact ⟨_, _, _, _, _, rfl, h, .no t, fun x => ⟨e1 x, e2 x⟩⟩
  | _, _, _, _, i + 1, _, .yes h t e1 e2, e => by
    obtain ⟨v, a, f, A2, F2, q1, q2, q3, q4⟩ := EnvR.take t (i := i) (by simpa using e)
    exact ⟨v, a, f, _, _, by simpa using q1, q2, .yes h q3 (fun _ => rfl) (fun _ => rfl), fun x => by have := q4 x; rw [e1, e2]; omega⟩
theorem EnvR.put : ∀ {σm : Env} {σ : L2.St} {A F : Cnt} {i : Nat} {d : D} {v : V} {a f : Cnt}, EnvR K mg H ρ σm σ A F → σm[i]? = some none → σ[i]? = some (some v) → Rep K mg H ρ d v a f →
    EnvR K mg H ρ (σm.set i (some d)) σ (fun x => a x + A x) (fun x => f x + F x)
  | _, _, _, _, i, _, _, _, _, .nil _ _, e, _, _ => by simp at e
  | _, _, _, _, 0, _, _, _, _, .no t, _, e, r => by
    simp at e; subst e
    exact .yes r t (fun _ => rfl) (fun _ => rfl)
  | _, _, _, _, i + 1, _, _, _, _, .no t, e1, e2, r => .no (EnvR.put t (by simpa using e1) (by simpa using e2) r)
  | _, _, _, _, 0, _, _, _, _, .yes h t _ _, e, _, _ => by simp at e
  | _, _, _, _, i + 1, _, _, _, _, .yes h t e1 e2, q1, q2, r => .yes h (EnvR.put t (by simpa using q1) (by simpa using q2) r) (fun x => by rw [e1]; omega) (fun x => by rw [e2]; omega)
/-- an owned list at a slot, to be written -/
theorem Rel.wr (rel : Rel K mg σm s σ H ρ A F) {i : Nat} {xs : List D} (hi : σm[i]? = some (some (.lst true xs))) :
    ∃ (p : Addr) (vs : List V) (a1 f1 A2 F2 : Cnt), σ[i]? = some (some (.ref p)) ∧ H p = some (.lst vs) ∧ Reps K mg H ρ xs vs a1 f1 ∧ (∀ x, A x = cp p x + a1 x + A2 x ∧ F x = f1 x + F2 x) ∧
      ∀ (H1 : Hp) (ρ1 : List Addr) (s1 : Sto) (xs' : List D) (vs' : List V) (a' f' : Cnt), Fr c0 H H1 ρ ρ1 → Wd K mg ρ1 s1 H1 → Reps K mg H1 ρ1 xs' vs' a' f' → (∀ x, cp p x + a' x + A2 x ≤ 1 ∧ (1 ≤ cp p x + a' x + A2 x → f' x + F2 x = 0)) →
        H1 p = some (.lst vs) ∧ Fr A H (upd H1 p (.lst vs')) ρ ρ1 ∧ Rel K mg (σm.set i (some (.lst true xs'))) s1 σ (upd H1 p (.lst vs')) ρ1 (fun x => cp p x + a' x + A2 x) (fun x => f' x + F2 x) := by
  obtain ⟨w, a0, f0, A2, F2, e1, rp0, e2, q⟩ := rel.env.take hi
  cases rp0 with
  | own hp hn t e =>
    rename_i p vs a1
    have hil : i < σm.length := (List.getElem?_eq_some_iff.mp hi).1
    refine ⟨p, vs, a1, f0, A2, F2, e1, hp, t, fun x => by have := q x; rw [e] at this; exact this, fun H1 ρ1 s1 xs' vs' a' f' fr wd r' hs => ?_⟩
    have hAp : 1 ≤ A p := by have := (q p).1; rw [e p, cp_same] at this; omega
    have hp1 : H1 p = some (.lst vs) := by
      rcases fr.keep p _ hp with z | ⟨_, z | z⟩
      · exact z
      · exact (hn z).elim
      · exact no0 z
    have hn1 : p ∉ ρ1 := fr.nmem hp hn
    have fr1 : Fr (cp p) H1 (upd H1 p (.lst vs')) ρ1 ρ1 := by
      refine ⟨fun x o q => ?_, fun x q => ?_, [], by simp, by simp⟩
      · by_cases z : x = p
        · subst z
          rw [hp1] at q; cases q
          exact .inr ⟨trivial, .inr (by rw [cp_same]; omega)⟩
        · rw [upd_ne z]; exact .inl q
      · by_cases z : x = p
        · subst z; rw [upd_same] at q; cases q
        · rw [upd_ne z] at q; exact q
    have hs0 := hs p
    rw [cp_same] at hs0
    have out : ∀ x, 1 ≤ cp p x → (a' x = 0 ∧ f' x = 0) ∧ A2 x = 0 ∧ F2 x = 0 := fun x hx => by
      by_cases z : x = p
      · subst z
        have := hs0.2 (by omega)
        omega
      · rw [cp_ne z] at hx; omega
    refine ⟨hp1, ⟨fun x o q => ?_, fun x q => fr.there x (fr1.there x q), fr.ext⟩, ?_⟩
    · rcases fr.keep x o q with z | ⟨l, z | z⟩
      · rcases fr1.keep x o z with y | ⟨l, y | y⟩
        · exact .inl y
        · obtain ⟨r, er, nr⟩ := fr.ext
          rw [er] at y
          rcases List.mem_append.mp y with y | y
          · exact .inr ⟨l, .inl y⟩
          · rw [nr x y] at q; cases q
        · by_cases w : x = p
          · subst w; exact .inr ⟨l, .inr hAp⟩
          · rw [cp_ne w] at y; omega
      · exact .inr ⟨l, .inl z⟩
      · exact no0 z
    · have env1 := (e2.frame fr fun _ hx => no0 hx).frame fr1 fun x hx => (out x hx).2
      have new : Rep K mg (upd H1 p (.lst vs')) ρ1 (.lst true xs') (.ref p) (fun x => cp p x + a' x) f' := .own upd_same hn1 (r'.frame fr1 fun x hx => (out x hx).1) (fun _ => rfl)
      have e3 := env1.put (i := i) (by simp [hil]) e1 new
      rw [List.set_set] at e3
      refine ⟨e3, ⟨wd.len, wd.nd, fun n b ys z1 z2 => ?_⟩, hs⟩
      obtain ⟨w1, ws, a, f, w2, w3⟩ := wd.at_ n b ys z1 z2
      have nb : b ≠ p := fun z => hn1 (z ▸ List.mem_of_getElem? z1)
      have zz := w3.plain w1
      exact ⟨w1, ws, a, f, by rw [upd_ne nb]; exact w2, w3.frame fr1 fun x _ => zz x⟩
end
end Zm
set_option Elab.async false
set_option linter.all false
set_option maxRecDepth 100000
set_option autoImplicit false
/-! Z4: the rules of the plain statements. -/
namespace Zm
open PySem PySem.Spec PyProof.Rows L2
section
variable {K : PySem.W.Frag} {mg : Str → Option Value} {W : WX} {H H' H1 : Hp} {ρ ρ' ρ1 : List Addr} {σm : Env} {σ : L2.St} {s s' s1 : Sto} {d e : D} {v : V} {A F A' F' A1 F1 a f Mc : Cnt} {Ds : Ends}
theorem rE_of_to {R : VK} {m : M} {k : D → Sto → RS} (rel : Rel K mg σm s σ H ρ A F) (h : oS K mg W A F H ρ Ds ((m σm s).to σm k))
    (hk : ∀ d s1 v H1 ρ1 a f, Fr c0 H H1 ρ ρ1 → Wd K mg ρ1 s1 H1 → Rep K mg H1 ρ1 d v a f → Gd A F H a f → oS K mg W A F H ρ Ds (k d s1) → R v H1) : rE K mg W m σ H R := by
  refine ⟨σm, s, ρ, A, F, rel, ?_⟩
  cases e : m σm s with
  | bad => rw [e] at h; exact h
  | ex x s1 =>
    rw [e] at h
    exact fun cls dd H' ρ' fr wd rx => h cls dd σ H' ρ' A F fr.up (rel.next fr wd) .refl rx
  | ok d s1 =>
    rw [e] at h
    exact fun v H1 ρ1 a f fr wd rp g => hk d s1 v H1 ρ1 a f fr wd rp g h
theorem rEF_of_to {R : VK} {m : M} {k : D → Sto → RS} {msk : List Bool} (rel : Rel K mg σm s σ H ρ A F) (h : oS K mg W A F H ρ Ds ((m (restr msk σm) s).to σm k))
    (hk : ∀ d s1 v H1 ρ1 a f Am Fm Ar F2, Fr c0 H H1 ρ ρ1 → Wd K mg ρ1 s1 H1 → Rep K mg H1 ρ1 d v a f → Gd Am Fm H a f → EnvR K mg H ρ (frzE msk σm) σ Ar F2 → (∀ x, A x = Am x + Ar x ∧ Fm x ≤ F x ∧ (1 ≤ F2 x → 1 ≤ F x ∨ 1 ≤ Am x)) → oS K mg W A F H ρ Ds (k d s1) → R v H1) : rE K mg W m σ H R := by
  obtain ⟨Am, Fm, Ar, F2, r1, r2, q⟩ := rel.mask (msk := msk)
  refine ⟨_, s, ρ, Am, Fm, r1, ?_⟩
  cases e : m (restr msk σm) s with
  | bad => rw [e] at h; exact h
  | ex x s1 =>
    rw [e] at h
    exact fun cls dd H' ρ' fr wd rx => h cls dd σ H' ρ' A F fr.up (rel.next fr wd) .refl rx
  | ok d s1 =>
    rw [e] at h
    exact fun v H1 ρ1 a f fr wd rp g => hk d s1 v H1 ρ1 a f Am Fm Ar F2 fr wd rp g r2 q h
theorem rT_of_to {R : Bool → Hp → Prop} {t : T} {k : Bool → Sto → RS} (rel : Rel K mg σm s σ H ρ A F) (h : oS K mg W A F H ρ Ds ((t σm s).to σm k))
    (hk : ∀ b s1 H1 ρ1, Fr c0 H H1 ρ ρ1 → Wd K mg ρ1 s1 H1 → oS K mg W A F H ρ Ds (k b s1) → R b H1) : rT K mg W t σ H R := by
  refine ⟨σm, s, ρ, A, F, rel, ?_⟩
  cases e : t σm s with
  | bad => rw [e] at h; exact h
  | ex x s1 =>
    rw [e] at h
    exact fun cls dd H' ρ' fr wd rx => h cls dd σ H' ρ' A F fr.up (rel.next fr wd) .refl rx
  | ok d s1 =>
    rw [e] at h
    exact fun H1 ρ1 fr wd => hk d s1 H1 ρ1 fr wd h
theorem rS_seq {a b : MS} (h : rS K mg W (mSeq a b) Ds σ H) : rS K mg W a { Ds with nx := rS K mg W b Ds } σ H := by
  obtain ⟨σm, s, ρ, A, F, rel, h⟩ := h
  refine ⟨σm, s, ρ, A, F, rel, ?_⟩
  unfold mSeq at h
  cases e : a σm s with
  | nx σ1 s1 =>
    rw [e] at h
    exact fun σ' H' ρ' A' F' fr rel' n => ⟨σ1, s1, ρ', A', F', rel', oS.step fr n h⟩
  | rt d s => rw [e] at h; exact h
  | bk σ s => rw [e] at h; exact h
  | ct σ s => rw [e] at h; exact h
  | ex x σ s => rw [e] at h; exact h
  | bad => rw [e] at h; exact h
end
section
variable {X : Cx} {W : WX} {st : Stmt} {sts : List Stmt} {e c : Expr} {m ma : M} {t : T} {a b : MS} {pos pos' : Pos} {i : Nat} {x : Str}
theorem ss_nil : SSs X W [] mNil := PSs.imp pss_nil fun D σ H ⟨σm, s, ρ, A, F, rel, h⟩ => h σ H ρ A F .refl rel .refl
theorem ss_cons (h1 : SS X W st a) (h2 : SSs X W sts b) : SSs X W (st :: sts) (mSeq a b) := PSs.imp (pss_cons h1 h2) fun D σ H h => rS_seq h
theorem ss_one (h1 : SS X W st a) : SSs X W [st] a := pss_one h1
theorem ss_do (he : SE X W e m) (hs : swapsWith e none pos.line X.env = pure false := by rfl) : SS X W (.Expr e pos) (mDo m) :=
  PS.imp (ps_expr he hs) fun D σ H ⟨σm, s, ρ, A, F, rel, h⟩ => rE_of_to rel h fun d s1 v H1 ρ1 a f fr wd rp g h => h σ H1 ρ1 A F fr.up (rel.next fr wd) .refl
theorem ss_ret (he : SE X W e m) : SS X W (.Return (some e) pos) (mRet m) :=
  PS.imp (ps_ret he) fun D σ H ⟨σm, s, ρ, A, F, rel, h⟩ => rE_of_to rel h fun d s1 v H1 ρ1 a f fr wd rp g h => h v H1 ρ1 a f fr.up wd rp fun x => by
    obtain ⟨p, q, r⟩ := g x
    exact ⟨p, fun z => ⟨(q z).1, .inl (q z).2⟩, r⟩
theorem ss_retV (i : Nat) {x : Str} {pos' : Pos} (hN : X.N[i]? = some x := by rfl) (hv : Vis X.env.scope x := by first | exact Or.inl rfl | exact Or.inr (Or.inl rfl) | exact Or.inr (Or.inr rfl)) (hd : (x == ("__debug__" : Str)) = false := by decide)
    (hcd : (x == ("__classdict__" : Str)) = false := by decide) : SS X W (.Return (some (.Name x pos')) pos) (mRetV i) :=
  PS.imp (ps_ret (pe_var hN hv hd hcd)) fun D σ H ⟨σm, s, ρ, A, F, rel, h⟩ => by
    unfold mRetV at h
    cases e : σm[i]? with
    | none => rw [e] at h; exact h.elim
    | some o =>
      cases o with
      | none => rw [e] at h; exact h.elim
      | some d =>
        rw [e] at h
        obtain ⟨v, a, f, e2, rp, le⟩ := rel.env.get e
        exact ⟨v, e2, h v H ρ a f .refl rel.wd rp fun x => by
          have := le x
          have s0 := rel.sep x
          exact ⟨by omega, fun z => ⟨by have := s0.2 (by omega); omega, .inr (by omega)⟩, fun z => .inr (.inl (by omega))⟩⟩
theorem ss_if {ss ss' : List Stmt} (hc : ST X W c t) (ha : SSs X W ss a) (hb : SSs X W ss' b) : SS X W (.If c ss ss' pos) (mIf t a b) :=
  PS.imp (ps_if hc ha hb) fun D σ H ⟨σm, s, ρ, A, F, rel, h⟩ => rT_of_to rel h fun c s1 H1 ρ1 fr wd h => by
    cases c with
    | true => exact iteT ⟨σm, s1, ρ1, A, F, rel.next fr wd, oS.step fr.up .refl (by simpa using h)⟩
    | false => exact iteF ⟨σm, s1, ρ1, A, F, rel.next fr wd, oS.step fr.up .refl (by simpa using h)⟩
theorem set_end {K : PySem.W.Frag} {mg : Str → Option Value} {W : WX} {σ : L2.St} {H : Hp} {D : Ends} (h : rS K mg W (mSet i m) D σ H) : rE K mg W m σ H fun x H1 => gName i x σ H1 D.nx := by
  obtain ⟨σm, s, ρ, A, F, rel, h⟩ := h
  refine rE_of_to rel h fun d s1 v H1 ρ1 a f fr wd rp g h => ?_
  split at h
  · rename_i z
    obtain ⟨A', F', rel', n⟩ := rel.set fr wd rp g (rp.noF z.1) i z.2
    exact h _ _ _ _ _ fr.up rel' n
  · exact h.elim
theorem setF_end {K : PySem.W.Frag} {mg : Str → Option Value} {W : WX} {σ : L2.St} {H : Hp} {D : Ends} {msk : List Bool} (h : rS K mg W (mSetF msk i m) D σ H) : rE K mg W m σ H fun x H1 => gName i x σ H1 D.nx := by
  obtain ⟨σm, s, ρ, A, F, rel, h⟩ := h
  refine rEF_of_to rel h fun d s1 v H1 ρ1 a f Am Fm Ar F2 fr wd rp g r2 q h => ?_
  split at h
  · rename_i z
    obtain ⟨A', F', rel', n⟩ := rel.setF r2 q fr wd rp g i z
    exact h _ _ _ _ _ fr.up rel' n
  · exact h.elim
/-! ### x.append(e) -/
theorem Rel.app {K : PySem.W.Frag} {mg : Str → Option Value} {H H1 : Hp} {ρ ρ1 : List Addr} {σm : Env} {σ : L2.St} {s s1 : Sto} {d : D} {v : V} {A F a f : Cnt} {xs : List D} (rel : Rel K mg σm s σ H ρ A F) (hi : σm[i]? = some (some (.lst true xs))) :
    ∃ (p : Addr) (vs : List V), σ[i]? = some (some (.ref p)) ∧ H p = some (.lst vs) ∧ vs.length = xs.length ∧ ∀ {H1 : Hp} {ρ1 : List Addr} {s1 : Sto} {d : D} {v : V} {a f : Cnt}, Fr c0 H H1 ρ ρ1 → Wd K mg ρ1 s1 H1 → Rep K mg H1 ρ1 d v a f →
      (∀ x, A x + a x ≤ 1 ∧ (1 ≤ A x + a x → F x + f x = 0)) → H1 p = some (.lst vs) ∧ ∃ A' F', Rel K mg (σm.set i (some (.lst true (xs ++ [d])))) s1 σ (upd H1 p (.lst (vs ++ [v]))) ρ1 A' F' ∧ Fr A H (upd H1 p (.lst (vs ++ [v]))) ρ ρ1 ∧ ∀ x, A' x = A x + a x ∧ F' x = F x + f x := by
  obtain ⟨p, vs, a1, f1, A2, F2, e1, hp, r0, q, wr⟩ := rel.wr hi
  refine ⟨p, vs, e1, hp, r0.length.symm, fun {H1 ρ1 s1 d v a f} fr wd rp hs => ?_⟩
  obtain ⟨h1, h2, h3⟩ := wr H1 ρ1 s1 (xs ++ [d]) (vs ++ [v]) _ _ fr wd ((r0.on fr).append (Reps.one rp)) fun x => by
    have := hs x
    have := q x
    constructor
    · omega
    · intro z
      have := (hs x).2 (by omega)
      omega
  refine ⟨h1, _, _, h3, h2, fun x => ?_⟩
  have := q x
  omega
end
end Zm
set_option Elab.async false
set_option linter.all false
set_option maxRecDepth 100000
set_option autoImplicit false
/-! Z5: functions: what a def promises by its machine, calls, the law's own call. -/
namespace Zm
open PySem PySem.Spec PyProof.Rows L2
theorem takes0N {X : Cx} : L2N.Takes X (fun _ _ _ _ => False) := fun _ _ x => by
  obtain ⟨_, _, _, _, _, _, _, _, _, _, _, _, _, _, _, _, w⟩ := x
  exact w.elim
/-- a def's promise where no repr is under way -/
structure FnG (P : Program) (w : World) (K : PySem.W.Frag) (mg : Str → Option Value) (base : Heap) (k : Nat) (f : Addr) (fd : FuncData) (ps : List Str) (sp : Sp) : Prop where
  len : ∀ vs H Q E, sp vs H Q E → vs.length = ps.length
  run : ∀ (A : Around) (out : List PySem.Env) (s : Shared) (H : Hp) (args : Args) (us : List Value) (vs : List V) (Q : VK) (E : XK),
    Room k A → A.guards = some [] → Env0 P w K mg base A out s H → BindsTo s fd args (ps.zip us) → Vals vs us →
    sp vs H Q E → codeAny (model P w) A (.call (.ref f) args) (CR (L2N.CX P w) out P w H s Q E) s
section
variable {P : Program} {w : World} {K : PySem.W.Frag} {mg : Str → Option Value} {base : Heap}
theorem FnG.mono {j k : Nat} {f : Addr} {fd : FuncData} {ps : List Str} {sp : Sp} (F : FnG P w K mg base j f fd ps sp) (h : j ≤ k) : FnG P w K mg base k f fd ps sp :=
  ⟨F.len, fun A out s H args us vs Q E hr => F.run A out s H args us vs Q E (hr.mono h)⟩
/-- the context of a def's body -/
abbrev cxG (P : Program) (w : World) (K : PySem.W.Frag) (mg : Str → Option Value) (base : Heap) (N : List Str) (qual : Str) (scope : Scope) (f : Addr) (cd : Value) (A : Around) (out : List PySem.Env) (s : Shared) (H : Hp) (E : XK) : Cx :=
  cxOf (L2N.CX P w) P w K mg base N qual scope f cd A out s H E
theorem fnG_of {k : Nat} {f : Addr} {name qual : Str} {params : Arguments} {body : List Stmt} {scope : Scope} {dV kV doc pm cdv ct oc : Value} {an od : Option Addr} {osl : Array (Option Value)} {N ps : List Str} {sp : Sp}
    (lk : K.lookup f = some ⟨oc, od, .func (PySem.W.fnOf name qual params body scope dV kV doc pm an cdv ct), osl⟩)
    (hcd : PySem.W.codeIn K cdv qual = true) (S : FnScope N ps scope)
    (len : ∀ vs H Q E, sp vs H Q E → vs.length = ps.length)
    (hb : ∀ (A : Around) (out : List PySem.Env) (s : Shared) (H : Hp) (vs : List V) (Q : VK) (E : XK),
      Room k (A.deeper (envOfC qual scope s.heap.objs.size f cdv)) → A.guards = some [] → sp vs H Q E →
      ∃ t, PSs (cxG P w K mg base N qual scope f cdv A out s H E) body t ∧ t { nx := fun _ H' => Q .non H', rt := Q } (start N vs) H) :
    FnG P w K mg base (k + 1) f (PySem.W.fnOf name qual params body scope dV kV doc pm an cdv ct) ps sp := by
  refine ⟨len, ?_⟩
  intro A out s H args us vs Q E room gd ent binds vals want
  have nvs := len _ _ _ _ want
  have kin : K.In s.heap :=
    ent.mod.kin.keeps fun b o e => (ent.bs b o e).1
  have nol : s.heap.NoLimit :=
    ent.mod.nolimit.keeps fun b o e => (ent.bs b o e).1
  have kinds : ∀ y ∈ ps.zip us, scope.names.lookup y.1 = some .local ∨
      (scope.names.lookup y.1 = some .cell ∧ ((cellsFrom (s.heap.objs.size + 1) scope.names []).lookup y.1).isSome = true) := by
    rintro ⟨n, v⟩ hy
    have hn := (List.of_mem_zip hy).1
    cases S.par n hn with
    | inl q => exact .inl q
    | inr q => exact .inr ⟨q, PySem.W.cellsFrom_some _ _ _ (.inl q)⟩
  refine codeAny_call_function room.depth (kin _ _ lk) rfl S.co S.gen rfl
    (PySem.W.codeRec_of kin hcd) (binds _ _ _ _ ?_)
  refine wpAny_newFunctionEnv_cells S.kind kinds ?_
  intro env he s1 x
  subst he
  obtain ⟨t, ht, hq⟩ := hb A out s H vs Q E (room.deeper _) gd want
  have inv0 : Inv (cxG P w K mg base N qual scope f cdv A out s H E) [] (start N vs) H s1 :=
    inv_start S room.hd ent nvs vals x
  refine ⟨nol.keeps x.toInCall.keep, codeAny_func (wpAny_mono (ht.run [] s1 (start N vs) H _ inv0 hq) ?_ (fun _ _ z => z))⟩
  intro fl s' hs
  cases fl with
  | brk => obtain ⟨_, _, _, z⟩ := hs; exact z.elim
  | cont => obtain ⟨_, _, _, z⟩ := hs; exact z.elim
  | next =>
    obtain ⟨σ', H', J, z⟩ := hs
    exact ⟨.non, H', J.os, J.bare, J.base, J.hok, rfl, z⟩
  | ret u =>
    obtain ⟨v, σ', H', J, rv, z⟩ := hs
    exact ⟨v, H', J.os, J.bare, J.base, J.hok, rv, z⟩
end
section
variable {X : Cx} {k : Nat} {f : Addr} {fd : FuncData} {ps : List Str} {sp : Sp} {E : L2.St → XK} {x : Str} {p pos : Pos} {e : Expr} {es : List Expr} {t : TA}
theorem run_fnG {pins : List (Addr × Obj)} {σ : L2.St} {H : Hp} {s : Shared} {Q : VK} {us : List Value} {vs : List V} (F : FnG X.prog X.w X.K X.mg X.base k f fd ps sp) (hr : Room k X.A) (hg : X.A.guards = some [])
    (hb : Binds X.K fd ps []) (hx : PassesAt (L2N.CX X.prog X.w) X σ (E σ)) (I : Inv X pins σ H s) (r : Vals vs us) (h : sp vs H Q (E σ)) :
    wpAny (model X.prog X.w) X.A (call (.ref f) us) (EP X pins σ Q) X.xe s := by
  have nus : us.length = ps.length := r.length ▸ F.len _ _ _ _ h
  have bnd := hb s us I.kIn (by simpa using nus)
  simp only [List.append_nil] at bnd
  refine wpAny_call (codeAny_mono (F.run X.A X.stack s H ⟨us, []⟩ us vs Q (E σ) hr hg I.env0 bnd r h) ?_)
  intro res s' hq
  match res, hq with
  | .error e, hq => exact hx pins H s e s' I hq
  | .ok (.ret u), hq => exact I.after hq
  | .ok .next, hq => exact hq.elim
  | .ok .brk, hq => exact hq.elim
  | .ok .cont, hq => exact hq.elim
theorem pe_callG (F : FnG X.prog X.w X.K X.mg X.base k f fd ps sp) (hr : Room k X.A) (hgd : X.A.guards = some []) (hg : Gl X x) (hm : X.mg x = some (.ref f)) (hk : PySem.W.keepIn X.K (.ref f) = true) (hb : Binds X.K fd ps [])
    (hx : ∀ σ, PassesAt (L2N.CX X.prog X.w) X σ (E σ)) (ha : PA X (e :: es) t) (hdb : (x == ("__debug__" : Str)) = false := by decide)
    (he : starEach (e :: es) X.env = (false, eval e X.env) :: starEach es X.env := by rfl) (hpl : (backTo pos (starEach es X.env)).any (·.1) = false := by rfl) :
    PE X (.Call (.Name x p) (e :: es) [] pos) (tCallS sp E t) := by
  constructor
  intro pins s σ H Q I h
  refine wpAny_Call_Name_kw (ld_glob I hg hm ?_ hdb)
  refine PySem.W.callWith_K (h₀ := X.base) I.ok.mod.kin hk (thn (ha.run pos pins s σ H _ I h) ?_) he hpl
  rintro us s1 ⟨vs, H1, I1, r, q⟩
  exact ⟨I1.kIn, run_fnG F hr hgd hb (hx σ) I1 r q⟩
end
/-! ### the machine's promise -/
section
variable (K : PySem.W.Frag) (mg : Str → Option Value)
def oF (a f : Cnt) (H : Hp) (ρ : List Addr) (Q : VK) (E : XK) : R D → Prop
  | .ok d s' => ∀ v H' ρ' a' f', Fr a H H' ρ ρ' → Wd K mg ρ' s' H' → Rep K mg H' ρ' d v a' f' → Out a f H a' f' → Q v H'
  | .ex x s' => ∀ cls dd H' ρ', Fr a H H' ρ ρ' → Wd K mg ρ' s' H' → RepX mg H' x cls dd → E cls dd H'
  | .bad => False
def spF (m : Fn) : Sp := fun vs H Q E => ∃ ds s ρ a f, Wd K mg ρ s H ∧ Reps K mg H ρ ds vs a f ∧ Sp1 a f ∧ oF K mg a f H ρ Q E (m ds s)
end
/-- np parameters, ns slots -/
def mkFn (np ns : Nat) (body : MS) : Fn := fun ds s => if ds.length = np then match body (ds.map some ++ List.replicate (ns - np) none) s with
    | .rt d s' => .ok d s'
    | .nx _ s' => .ok .non s'
    | .ex x _ s' => .ex x s'
    | _ => .bad
  else .bad
@[simp] def mCall (f : Fn) (ms : List M) : M := fun σ s => (mArgs ms σ s).bind f
section
variable {K : PySem.W.Frag} {mg : Str → Option Value} {H : Hp} {ρ : List Addr}
theorem EnvR.start : ∀ {ds : List D} {vs : List V} {a f : Cnt} (n : Nat), Reps K mg H ρ ds vs a f → EnvR K mg H ρ (ds.map some ++ List.replicate n none) (vs.map some ++ List.replicate n none) a f
  | _, _, a, f, 0, .nil h1 h2 => .nil h1 h2
  | _, _, a, f, n + 1, .nil h1 h2 => by
    show EnvR K mg H ρ (none :: List.replicate n none) (none :: List.replicate n none) a f
    exact .no (EnvR.start n (.nil h1 h2))
  | _, _, _, _, n, .cons h t e1 e2 => .yes h (EnvR.start n t) e1 e2
theorem spF_len {m : Fn} {np : Nat} (har : ∀ ds s, ds.length ≠ np → m ds s = .bad) {vs : List V} {Q : VK} {E : XK} (h : spF K mg m vs H Q E) : vs.length = np := by
  obtain ⟨ds, s, ρ, a, f, wd, rp, sp, h⟩ := h
  rw [← rp.length]
  by_cases q : ds.length = np
  · exact q
  · rw [har ds s q] at h; exact h.elim
theorem mkFn_ar {np ns : Nat} {body : MS} : ∀ ds s, ds.length ≠ np → mkFn np ns body ds s = .bad := fun ds s h => by unfold mkFn; rw [if_neg h]
theorem body_of {N : List Str} {np ns : Nat} {body : MS} {vs : List V} {Q : VK} {E : XK} (hN : N.length = ns) (hnp : np ≤ ns) (h : spF K mg (mkFn np ns body) vs H Q E) :
    rS K mg (fun cls dd _ H => E cls dd H) body { nx := fun _ H' => Q .non H', rt := Q } (L2.start N vs) H := by
  have hl := spF_len mkFn_ar h
  obtain ⟨ds, s, ρ, a, f, wd, rp, sp, h⟩ := h
  have hd : ds.length = np := by rw [rp.length, hl]
  unfold mkFn at h
  rw [if_pos hd] at h
  have es : EnvR K mg H ρ (ds.map some ++ List.replicate (ns - np) none) (L2.start N vs) a f := by
    unfold L2.start
    rw [hN, hl]
    exact EnvR.start _ rp
  refine ⟨ds.map some ++ List.replicate (ns - np) none, s, ρ, a, f, ⟨es, wd, sp⟩, ?_⟩
  · cases e : body (ds.map some ++ List.replicate (ns - np) none) s with
    | nx σ' s' =>
      rw [e] at h
      exact fun σ' H' ρ' A' F' fr rel n => h .non H' ρ' c0 c0 fr rel.wd (.non (fun _ => rfl) (fun _ => rfl)) (.zero (fun _ => rfl) (fun _ => rfl))
    | rt d s' => rw [e] at h; exact h
    | bk σ s => rw [e] at h; exact h.elim
    | ct σ s => rw [e] at h; exact h.elim
    | bad => rw [e] at h; exact h.elim
    | ex x σ s' =>
      rw [e] at h
      exact fun cls dd σ' H' ρ' A' F' fr rel n rx => h cls dd H' ρ' fr rel.wd rx
theorem rE_call {W : WX} {σ : L2.St} {H : Hp} {Q : VK} {fn : Fn} {ms : List M} (h : rE K mg W (mCall fn ms) σ H Q) : rA K mg W (mArgs ms) σ H fun vs H1 => spF K mg fn vs H1 Q (WE W σ) := by
  obtain ⟨σm, s, ρ, A, F, rel, h⟩ := h
  refine ⟨σm, s, ρ, A, F, rel, ?_⟩
  unfold mCall at h
  cases e : mArgs ms σm s with
  | bad => rw [e] at h; exact h
  | ex x s1 => rw [e] at h; exact h
  | ok ds s1 =>
    rw [e, Zm.R.bind_ok] at h
    intro vs H1 ρ1 a f fr wd rp g
    refine ⟨ds, s1, ρ1, a, f, wd, rp, g.sp, ?_⟩
    cases e2 : fn ds s1 with
    | bad => rw [e2] at h; exact h
    | ex x s2 =>
      rw [e2] at h
      exact fun cls dd H2 ρ2 fr2 wd2 rx => h cls dd H2 ρ2 (fr.trans fr2 fun x z => .inr ((g x).2.1 z).2) wd2 rx
    | ok d s2 =>
      rw [e2] at h
      exact fun v H2 ρ2 a' f' fr2 wd2 rp2 o => h v H2 ρ2 a' f' (fr.trans fr2 fun x z => .inr ((g x).2.1 z).2) wd2 rp2 (g.out fr o)
end
/-- a def of the text keeps its machine's promise -/
structure FnM (P : Program) (w : World) (K : PySem.W.Frag) (mg : Str → Option Value) (base : Heap) (k : Nat) (x : Str) (ps : List Str) (m : Fn) : Prop where
  ex : ∃ f fd, mg x = some (.ref f) ∧ PySem.W.keepIn K (.ref f) = true ∧ Binds K fd ps [] ∧ FnG P w K mg base k f fd ps (spF K mg m) ∧ ∃ oc od osl, K.lookup f = some ⟨oc, od, .func fd, osl⟩
section
variable {P : Program} {w : World} {K : PySem.W.Frag} {mg : Str → Option Value} {base : Heap}
theorem FnM.mono {j k : Nat} {x : Str} {ps : List Str} {m : Fn} (F : FnM P w K mg base j x ps m) (h : j ≤ k) : FnM P w K mg base k x ps m := by
  obtain ⟨f, fd, a, b, c, d, e⟩ := F.ex
  exact ⟨f, fd, a, b, c, d.mono h, e⟩
theorem fnM_mk {x qual : Str} {st : Stmt} {f : Addr} {fd : FuncData} {N ps : List Str} {k np ns : Nat} {body : MS} (F : Fun K x qual st f fd) (S : FnScope N ps (defScope st)) (hm : mg x = some (.ref f)) (hb : Binds K fd ps [])
    (h : ∀ (cdv : Value) (A : Around) (out : List PySem.Env) (s : Shared) (H : Hp) (E : XK), Room k (A.deeper (envOfC qual (defScope st) s.heap.objs.size f cdv)) → A.guards = some [] →
      SSs (cxG P w K mg base N qual (defScope st) f cdv A out s H E) (fun cls dd _ H => E cls dd H) (defBody st) body)
    (hN : N.length = ns := by rfl) (hps : ps.length = np := by rfl) (hnp : np ≤ ns := by decide) : FnM P w K mg base (k + 1) x ps (mkFn np ns body) := by
  refine ⟨f, fd, hm, F.kp, hb, ?_⟩
  obtain ⟨oc, od, kV, doc, pm, an, cdv, ct, osl, rfl, lk, hcd⟩ := F.ex
  refine ⟨?_, oc, od, osl, lk⟩
  refine fnG_of lk hcd S (fun vs H Q E q => by rw [spF_len mkFn_ar q, hps]) fun A out s H vs Q E hr hg q => ?_
  exact ⟨_, h cdv A out s H E hr hg, body_of hN hnp q⟩
end
section
variable {X : Cx} {W : WX} {e : Expr} {es : List Expr} {ms : List M} {k : Nat} {x : Str} {ps : List Str} {m : Fn} {p pos : Pos}
theorem s_call (F : FnM X.prog X.w X.K X.mg X.base k x ps m) (hr : Room k X.A) (hgd : X.A.guards = some []) (tk : L2N.Takes X W) (ha : SA X W (e :: es) ms) (hg : Gl X x := by rfl) (hdb : (x == ("__debug__" : Str)) = false := by decide)
    (he : starEach (e :: es) X.env = (false, eval e X.env) :: starEach es X.env := by rfl) (hpl : (backTo pos (starEach es X.env)).any (·.1) = false := by rfl) : SE X W (.Call (.Name x p) (e :: es) [] pos) (mCall m ms) := by
  obtain ⟨f, fd, a, b, c, d, _⟩ := F.ex
  exact PE.imp (pe_callG d hr hgd hg a b c (E := WE W) (fun σ => L2N.passAt tk σ) ha hdb he hpl) fun σ H Q h => rE_call h
end
end Zm
set_option Elab.async false
set_option linter.all false
set_option maxRecDepth 100000
set_option autoImplicit false
/-! Z6: targets, what is walked, loops, comprehensions. -/
namespace Zm
open PySem PySem.Spec PyProof.Rows L2
inductive Tg where
  | nm (i : Nat) | t2 (a b : Tg) | t3 (a b c : Tg) | l (is : List Nat)
/-- names, one by one -/
def bindN : List Nat → List D → Env → Option Env
  | [], [], σ => some σ
  | i :: is, x :: xs, σ => if i < σ.length then bindN is xs (σ.set i (some x)) else none
  | _, _, _ => none
def Tg.bind : Tg → D → Env → Option Env
  | .nm i, d, σ => if i < σ.length then some (σ.set i (some d)) else none
  | .t2 a b, .tup [x, y], σ => (a.bind x σ).bind fun σ1 => b.bind y σ1
  | .t3 a b c, .tup [x, y, z], σ => (a.bind x σ).bind fun σ1 => (b.bind y σ1).bind fun σ2 => c.bind z σ2
  | .l is, .lst _ xs, σ => bindN is xs σ
  | _, _, _ => none
def Tg.slots : Tg → List Nat
  | .nm i => [i]
  | .t2 a b => a.slots ++ b.slots
  | .t3 a b c => a.slots ++ (b.slots ++ c.slots)
  | .l is => is
def Chg (ss : List Nat) (σ σ' : L2.St) : Prop := σ'.length = σ.length ∧ ∀ j, j ∉ ss → σ'[j]? = σ[j]?
theorem Chg.trans {ss ss' : List Nat} {σ σ1 σ2 : L2.St} (a : Chg ss σ σ1) (b : Chg ss' σ1 σ2) : Chg (ss ++ ss') σ σ2 := ⟨b.1.trans a.1, fun j hj => by
  rw [List.mem_append] at hj
  exact (b.2 j fun z => hj (.inr z)).trans (a.2 j fun z => hj (.inl z))⟩
/-- what a target's store promises -/
def rG (K : PySem.W.Frag) (mg : Str → Option Value) (tg : Tg) : TG := fun v σ H Q => ∃ σm s ρ A F d f, Rel K mg σm s σ H ρ A F ∧ Rep K mg H ρ d v c0 f ∧ (∀ x, 1 ≤ f x → A x = 0) ∧ ∃ σ1, tg.bind d σm = some σ1 ∧
  ∀ σ' A' F', Rel K mg σ1 s σ' H ρ A' F' → (∀ x, A' x ≤ A x ∧ (1 ≤ F' x → 1 ≤ F x ∨ 1 ≤ f x)) → Chg tg.slots σ σ' → Q σ' H
def SG (X : Cx) (e : Expr) (tg : Tg) : Prop := PG X e (rG X.K X.mg tg)
theorem PG.imp {X : Cx} {e : Expr} {t t' : TG} (h : PG X e t) (q : ∀ v σ H Q, t' v σ H Q → t v σ H Q) : PG X e t' := ⟨fun pins s σ H v u Q I r w => h.run pins s σ H v u Q I r (q v σ H Q w)⟩
section
variable {X : Cx} {pos : Pos}
theorem sg_nm (i : Nat) {x : Str} (nd : X.N.Nodup) (hi : X.N[i]? = some x := by rfl) (hx : Loc X.env.scope x := by first | exact .inl rfl | exact .inr rfl) (hf : X.fn x = true ∨ X.env.scope.names.lookup x = some .local := by first | exact .inl rfl | exact .inr rfl) : SG X (.Name x pos) (.nm i) :=
  PG.imp (pg_name nd hi hx hf) fun v σ H Q ⟨σm, s, ρ, A, F, d, f, rel, rp, dj, σ1, e, h⟩ => by
    unfold Tg.bind at e
    split at e
    · rename_i hi
      cases e
      obtain ⟨A', F', e', le, _⟩ := rel.env.set i rp hi
      refine h _ A' F' ⟨e', rel.wd, fun x => ?_⟩ (fun x => ?_) ?_
      · have := le x
        have s0 := rel.sep x
        have z0 : c0 x = 0 := rfl
        refine ⟨by omega, fun y => ?_⟩
        have := s0.2 (by omega)
        by_cases w : 1 ≤ f x
        · have := dj x w; omega
        · omega
      · have := le x
        have z0 : c0 x = 0 := rfl
        exact ⟨by omega, fun y => by omega⟩
      · exact ⟨by simp, fun j hj => List.getElem?_set_ne (fun z => hj (by simp [Tg.slots, z]))⟩
    · cases e
theorem sg_t2 {e1 e2 : Expr} {k : Nat} {a b : Tg} (hc : X.calm = true) (h1 : SG X e1 a) (h2 : SG X e2 b) (hs1 : (assignEach [e1, e2] X.env).map (·.2) = assign e1 X.env :: (assignEach [e2] X.env).map (·.2) := by rfl) (hs2 : (assignEach [e2] X.env).map (·.2) = assign e2 X.env :: (assignEach [] X.env).map (·.2) := by rfl)
    (hn : (assignEach [e1, e2] X.env).length = 2 := by rfl) (hst : (assignEach [e1, e2] X.env).findIdx? (·.1) = none := by rfl) : SG X (.Tuple [e1, e2] k pos) (.t2 a b) :=
  PG.imp (pg_tup hc (pgs_cons h1 (pgs_cons h2 pgs_nil hs2) hs1) hn hst) fun v σ H Q ⟨σm, s, ρ, A, F, d, f, rel, rp, dj, σ1, e, h⟩ => by
    match d, rp, e with
    | .tup [x, y], .tup hp r, e =>
      obtain ⟨vx, vy, ax, fx, ay, fy, rfl, rx, ry, q⟩ := r.inv2
      have e : (a.bind x σm).bind (fun σ1 => b.bind y σ1) = some σ1 := e
      cases ea : a.bind x σm with
      | none => rw [ea] at e; cases e
      | some σa =>
        rw [ea] at e
        have e : b.bind y σa = some σ1 := e
        have zx : ax = c0 := funext fun x => by have := (q x).1; have z0 : c0 x = 0 := rfl; omega
        have zy : ay = c0 := funext fun x => by have := (q x).1; have z0 : c0 x = 0 := rfl; omega
        subst zx zy
        refine ⟨_, _, rfl, SqT.of hp, rfl, vx, _, rfl, ⟨σm, s, ρ, A, F, x, fx, rel, rx, fun p hp => dj p (by have := q p; omega), σa, ea, fun σ2 A2 F2 rel2 le2 ch2 => ?_⟩⟩
        refine ⟨vy, _, rfl, ⟨σa, s, ρ, A2, F2, y, fy, rel2, ry, fun p hp => by have := dj p (by have := q p; omega); have := le2 p; omega, σ1, e, fun σ3 A3 F3 rel3 le3 ch3 => ?_⟩⟩
        exact ⟨rfl, h σ3 A3 F3 rel3 (fun p => ⟨by have := le2 p; have := le3 p; omega, fun z => by
          have q0 := q p
          rcases (le3 p).2 z with w | w
          · rcases (le2 p).2 w with u | u
            · exact .inl u
            · exact .inr (by omega)
          · exact .inr (by omega)⟩) (ch2.trans ch3)⟩
theorem sg_t3 {e1 e2 e3 : Expr} {k : Nat} {a b c : Tg} (hc : X.calm = true) (h1 : SG X e1 a) (h2 : SG X e2 b) (h3 : SG X e3 c) (hs1 : (assignEach [e1, e2, e3] X.env).map (·.2) = assign e1 X.env :: (assignEach [e2, e3] X.env).map (·.2) := by rfl) (hs2 : (assignEach [e2, e3] X.env).map (·.2) = assign e2 X.env :: (assignEach [e3] X.env).map (·.2) := by rfl)
    (hs3 : (assignEach [e3] X.env).map (·.2) = assign e3 X.env :: (assignEach [] X.env).map (·.2) := by rfl)
    (hn : (assignEach [e1, e2, e3] X.env).length = 3 := by rfl) (hst : (assignEach [e1, e2, e3] X.env).findIdx? (·.1) = none := by rfl) : SG X (.Tuple [e1, e2, e3] k pos) (.t3 a b c) :=
  PG.imp (pg_tup hc (pgs_cons h1 (pgs_cons h2 (pgs_cons h3 pgs_nil hs3) hs2) hs1) hn hst) fun v σ H Q ⟨σm, s, ρ, A, F, d, f, rel, rp, dj, σ1, e, h⟩ => by
    match d, rp, e with
    | .tup [x, y, z], .tup hp r, e =>
      obtain ⟨vx, vy, vz, ax, fx, ay, fy, az, fz, rfl, rx, ry, rz, q⟩ := r.inv3
      have e : (a.bind x σm).bind (fun σ1 => (b.bind y σ1).bind fun σ2 => c.bind z σ2) = some σ1 := e
      cases ea : a.bind x σm with
      | none => rw [ea] at e; cases e
      | some σa =>
        rw [ea] at e
        have e : (b.bind y σa).bind (fun σ2 => c.bind z σ2) = some σ1 := e
        cases eb : b.bind y σa with
        | none => rw [eb] at e; cases e
        | some σb =>
          rw [eb] at e
          have e : c.bind z σb = some σ1 := e
          have zx : ax = c0 := funext fun x => by have := (q x).1; have z0 : c0 x = 0 := rfl; omega
          have zy : ay = c0 := funext fun x => by have := (q x).1; have z0 : c0 x = 0 := rfl; omega
          have zz : az = c0 := funext fun x => by have := (q x).1; have z0 : c0 x = 0 := rfl; omega
          subst zx zy zz
          refine ⟨_, _, rfl, SqT.of hp, rfl, vx, _, rfl, ⟨σm, s, ρ, A, F, x, fx, rel, rx, fun p hp => dj p (by have := q p; omega), σa, ea, fun σ2 A2 F2 rel2 le2 ch2 => ?_⟩⟩
          refine ⟨vy, _, rfl, ⟨σa, s, ρ, A2, F2, y, fy, rel2, ry, fun p hp => by have := dj p (by have := q p; omega); have := le2 p; omega, σb, eb, fun σ3 A3 F3 rel3 le3 ch3 => ?_⟩⟩
          refine ⟨vz, _, rfl, ⟨σb, s, ρ, A3, F3, z, fz, rel3, rz, fun p hp => by have := dj p (by have := q p; omega); have := le2 p; have := le3 p; omega, σ1, e, fun σ4 A4 F4 rel4 le4 ch4 => ?_⟩⟩
          exact ⟨rfl, h σ4 A4 F4 rel4 (fun p => ⟨by have := le2 p; have := le3 p; have := le4 p; omega, fun w => by
            have q0 := q p
            rcases (le4 p).2 w with w | w
            · rcases (le3 p).2 w with w | w
              · rcases (le2 p).2 w with u | u
                · exact .inl u
                · exact .inr (by omega)
              · exact .inr (by omega)
            · exact .inr (by omega)⟩) (ch2.trans (ch3.trans ch4))⟩
end
/-! ### what is walked -/
/-- the iterator J gives the trees ds, one a turn, as long as what they stand on is left alone -/
def ItOK (K : PySem.W.Frag) (mg : Str → Option Value) (J : It) (ds : List D) (H : Hp) (ρ : List Addr) (f : Cnt) : Prop :=
  (∀ x, 1 ≤ f x → ∃ o, H x = some o) ∧ ∃ (G : Hp → Prop) (Y : Nat → Hp → V → Hp → Prop), Walk J ds.length G Y ∧
    ∀ (Mc : Cnt) (H1 : Hp) (ρ1 : List Addr), Fr Mc H H1 ρ ρ1 → (∀ x, 1 ≤ Mc x → f x = 0) → G H1 ∧
      ∀ (i : Nat) (d : D) (x : V) (H2 : Hp), ds[i]? = some d → Y i H1 x H2 → Same H1 H2 ∧ ∃ f', Rep K mg H2 ρ1 d x c0 f' ∧ ∀ p, f' p ≤ f p
abbrev Src := Env → Sto → R (List D)
section
variable (K : PySem.W.Frag) (mg : Str → Option Value) (W : WX)
def oI (σ : L2.St) (A F : Cnt) (H : Hp) (ρ : List Addr) (z : Bool) (Q : It → Hp → Prop) : R (List D) → Prop
  | .ok ds s' => ∀ J H' ρ' f, Fr c0 H H' ρ ρ' → Wd K mg ρ' s' H' → ItOK K mg J ds H' ρ' f → (∀ x, 1 ≤ f x → z = false ∧ (1 ≤ A x ∨ 1 ≤ F x ∨ H x = none)) → Q J H'
  | .ex x s' => ∀ cls dd H' ρ', Fr c0 H H' ρ ρ' → Wd K mg ρ' s' H' → RepX mg H' x cls dd → W cls dd σ H'
  | .bad => False
def rI (z : Bool) (m : Src) : TI := fun σ H Q => ∃ σm s ρ A F, Rel K mg σm s σ H ρ A F ∧ oI K mg W σ A F H ρ z Q (m σm s)
end
/-- z: nothing that may be changed is walked -/
def SI (X : Cx) (W : WX) (z : Bool) (tg iter : Expr) (m : Src) : Prop := PI X tg iter (rI X.K X.mg W z m)
theorem PI.imp {X : Cx} {tg e : Expr} {t t' : TI} (h : PI X tg e t) (q : ∀ σ H Q, t' σ H Q → t σ H Q) : PI X tg e t' := ⟨fun pins s σ H Q I w => h.run pins s σ H Q I (q σ H Q w)⟩
def iL (m : M) : Src := fun σ s => (m σ s).bind fun d s' => match d with
  | .lst _ ds => .ok (fzs ds) s'
  | _ => .bad
def rng (lo hi step : Int) (n : Nat) : List D := (List.range n).map fun i => .int (lo + (i : Nat) * step)
def big (i : Int) : Bool := decide (-(2 ^ 62) ≤ i ∧ i < 2 ^ 62)
def iR1 (ms : List M) : Src := fun σ s => (mArgs ms σ s).bind fun ds s' => match ds with
  | [.int j] => if big j = true then .ok (rng 0 j 1 j.toNat) s' else .bad
  | _ => .bad
/-- down by ones -/
def iR3 (ms : List M) : Src := fun σ s => (mArgs ms σ s).bind fun ds s' => match ds with
  | [.int i, .int j, .int c] => if big i = true ∧ big j = true ∧ c = -1 then .ok (rng i j (-1) (i - j).toNat) s' else .bad
  | _ => .bad
section
variable {K : PySem.W.Frag} {mg : Str → Option Value} {H : Hp} {ρ : List Addr}
theorem it_range {lo : Int} {n : Nat} {hi : Int} : ItOK K mg (Itr lo n) (rng lo hi 1 n) H ρ c0 := by
  refine ⟨fun _ hx => no0 hx, fun _ => True, YFn fun i => .int (lo + i), by unfold rng; rw [List.length_map, List.length_range]; exact walk_range, fun Mc H1 ρ1 fr hm => ⟨trivial, fun i d x H2 e y => ?_⟩⟩
  obtain ⟨rfl, rfl⟩ := y
  unfold rng at e
  rw [List.getElem?_map] at e
  have hi : i < n := by
    by_cases z : i < n
    · exact z
    · rw [List.getElem?_eq_none (by simpa using z)] at e; cases e
  rw [List.getElem?_range hi] at e
  simp at e; subst e
  exact ⟨fun _ _ h => h, c0, .int (fun _ => rfl) (fun _ => rfl), fun _ => Nat.le_refl _⟩
theorem it_rangeC {lo c : Int} {n : Nat} {hi : Int} : ItOK K mg (Itc lo c n) (rng lo hi c n) H ρ c0 := by
  refine ⟨fun _ hx => no0 hx, fun _ => True, YFn fun i => .int (lo + (i : Nat) * c), by unfold rng; rw [List.length_map, List.length_range]; exact walk_rangeC, fun Mc H1 ρ1 fr hm => ⟨trivial, fun i d x H2 e y => ?_⟩⟩
  obtain ⟨rfl, rfl⟩ := y
  unfold rng at e
  rw [List.getElem?_map] at e
  have hi : i < n := by
    by_cases z : i < n
    · exact z
    · rw [List.getElem?_eq_none (by simpa using z)] at e; cases e
  rw [List.getElem?_range hi] at e
  simp at e; subst e
  exact ⟨fun _ _ h => h, c0, .int (fun _ => rfl) (fun _ => rfl), fun _ => Nat.le_refl _⟩
end
end Zm
set_option Elab.async false
set_option linter.all false
set_option maxRecDepth 100000
set_option autoImplicit false
/-! Z7: loops and comprehensions by machine. -/
namespace Zm
open PySem PySem.Spec PyProof.Rows L2
def forR (tg : Tg) (body : MS) : List D → Env → Sto → RS
  | [], σ, s => .nx σ s
  | d :: ds, σ, s => match tg.bind d σ with
    | none => .bad
    | some σ1 => match body σ1 s with
      | .nx σ2 s2 => forR tg body ds σ2 s2
      | .ct σ2 s2 => forR tg body ds σ2 s2
      | .bk σ2 s2 => .nx σ2 s2
      | r => r
def mFor (msk : List Bool) (src : Src) (tg : Tg) (body : MS) : MS := fun σ s => (src (restr msk σ) s).to σ fun ds s' => forR tg body ds (frzE msk σ) s'
def mForP (src : Src) (tg : Tg) (body : MS) : MS := fun σ s => (src σ s).to σ fun ds s' => forR tg body ds σ s'
@[simp] def wipeE (σ : Env) : List Nat → Env
  | [] => σ
  | v :: vs => (wipeE σ vs).set v none
def lcR (tg : Tg) (t : T) (m : M) (σ : Env) : List D → List D → Sto → R D
  | [], acc, s => .ok (.lst true acc) s
  | d :: ds, acc, s => match tg.bind d σ with
    | none => .bad
    | some σ1 => match t σ1 s with
      | .ok b s1 => if b = true then match m σ1 s1 with
          | .ok x s2 => if acc.length < sizeLine then lcR tg t m σ ds (acc ++ [x]) s2 else .bad
          | _ => .bad
        else lcR tg t m σ ds acc s1
      | _ => .bad
@[simp] def tTrue : T := fun _ s => .ok true s
def Tg.within (tg : Tg) (vs : List Nat) : Bool := tg.slots.all fun i => vs.contains i
@[simp] def fzE (σ : Env) : Env := σ.map fun o => o.map fz
def mLc (src : Src) (tg : Tg) (vs : List Nat) (t : T) (m : M) : M := fun σ s => (src σ s).bind fun ds s' => if tg.within vs = true then lcR tg t m (wipeE (fzE σ) vs) ds [] s' else .bad
section
variable {K : PySem.W.Frag} {mg : Str → Option Value} {W : WX} {H H1 : Hp} {ρ ρ1 : List Addr} {σm σ0 : Env} {σ : L2.St} {s s1 : Sto} {A F A0 F0 f : Cnt} {Ds : Ends} {tg : Tg} {body : MS}
theorem for_core {J : It} {items : List D} (it : ItOK K mg J items H1 ρ1 f) (rel0 : Rel K mg σ0 s1 σ H1 ρ1 A0 F0) (fr0 : Fr A H H1 ρ ρ1) (n0 : Nx A F H A0 F0) (hf0 : ∀ x, 1 ≤ f x → A0 x = 0) (hfp : ∀ x, 1 ≤ f x → 1 ≤ A x ∨ 1 ≤ F x ∨ H x = none)
    (h : oS K mg W A F H ρ Ds (forR tg body items σ0 s1)) :
    ∃ W' : Nat → Nat → L2.St → Hp → Prop, (∃ m, W' 0 m σ H1) ∧ ∀ i m σ H, W' i m σ H →
      (J.stop i H ∧ Ds.nx σ H) ∨ (J.go i H ∧ ∃ N : L2.St → Hp → Prop, (∀ σ' H', N σ' H' → ∃ m', m' < m ∧ W' (i + 1) m' σ' H') ∧ ∀ x H', J.yld i H x H' → rG K mg tg x σ H' fun σ2 H2 => rS K mg W body { Ds with nx := N, ct := N, bk := Ds.nx } σ2 H2) := by
  obtain ⟨hft, G, Y, wk, st⟩ := it
  refine for_it wk (fun i σ' H' => ∃ σm' s' ρ' A' F', Rel K mg σm' s' σ' H' ρ' A' F' ∧ Fr A0 H1 H' ρ1 ρ' ∧ (∀ x, 1 ≤ A' x → 1 ≤ A0 x ∨ H1 x = none) ∧ Nx A F H A' F' ∧ oS K mg W A F H ρ Ds (forR tg body (items.drop i) σm' s'))
    ⟨σ0, s1, ρ1, A0, F0, rel0, .refl, fun x z => .inl z, n0, by simpa using h⟩ ?_ ?_ ?_
  · rintro i σ' H' _ ⟨σm', s', ρ', A', F', rel', fr', o', n', h'⟩
    exact (st A0 H' ρ' fr' fun x z => Nat.eq_zero_of_not_pos fun w => by have := hf0 x w; omega).1
  · rintro i x σ' H' H2 hi ⟨σm', s', ρ', A', F', rel', fr', o', n', h'⟩ hy
    have hit : items[i]? = some items[i] := List.getElem?_eq_getElem hi
    obtain ⟨sm, f', rp, le⟩ := (st A0 H' ρ' fr' fun x z => Nat.eq_zero_of_not_pos fun w => by have := hf0 x w; omega).2 i _ x H2 hit hy
    rw [List.drop_eq_getElem_cons hi] at h'
    unfold forR at h'
    have dj : ∀ x, 1 ≤ f' x → A' x = 0 := fun x z => by
      have := le x
      by_cases w : 1 ≤ A' x
      · rcases o' x w with u | u
        · have := hf0 x (by omega); omega
        · obtain ⟨o, ho⟩ := hft x (by omega)
          rw [u] at ho; cases ho
      · omega
    cases eb : tg.bind items[i] σm' with
    | none => simp only [eb] at h'; exact h'.elim
    | some σ1 =>
      simp only [eb] at h'
      refine ⟨σm', s', ρ', A', F', _, f', rel'.next (Fr.of_same sm) (rel'.wd.same sm), rp, dj, σ1, eb, fun σ2 A2 F2 rel2 le2 _ => ⟨σ1, s', ρ', A2, F2, rel2, ?_⟩⟩
      -- what the body's end gives
      have fin : ∀ {σ3 : Env} {s3 : Sto} {σ'' : L2.St} {H'' : Hp} {ρ'' : List Addr} {A3 F3 : Cnt}, Fr A2 H2 H'' ρ' ρ'' → Rel K mg σ3 s3 σ'' H'' ρ'' A3 F3 → Nx A2 F2 H2 A3 F3 →
          Fr A0 H1 H'' ρ1 ρ'' ∧ (∀ x, 1 ≤ A3 x → 1 ≤ A0 x ∨ H1 x = none) ∧ Nx A F H A3 F3 ∧ Fr A H H'' ρ ρ'' := fun {σ3 s3 σ'' H'' ρ'' A3 F3} fr3 rel3 n3 => by
        have e1 : Fr A0 H1 H2 ρ1 ρ' := fr'.trans (Fr.of_same (Mc := c0) sm) fun _ z => no0 z
        have e2 : Fr A0 H1 H'' ρ1 ρ'' := e1.trans fr3 fun x z => o' x (by have := le2 x; omega)
        have e3 : ∀ x, 1 ≤ A3 x → 1 ≤ A0 x ∨ H1 x = none := fun x z => by
          rcases (n3 x).1 z with w | w
          · exact o' x (by have := le2 x; omega)
          · exact .inr (e1.there x w)
        have e4 : Fr A H H2 ρ ρ' := fr0.trans e1 fun x z => (n0 x).1 z
        have e5 : Nx A F H A2 F2 := fun x => by
          have l2 := le2 x
          obtain ⟨p, q⟩ := n' x
          refine ⟨fun z => p (by omega), fun z => ?_⟩
          rcases l2.2 z with w | w
          · exact q w
          · exact hfp x (by have := le x; omega)
        exact ⟨e2, e3, e5.trans e4 n3, e4.trans fr3 fun x z => (e5 x).1 z⟩
      cases ebd : body σ1 s' with
      | bad => simp only [ebd] at h'; exact h'.elim
      | nx σ3 s3 =>
        simp only [ebd] at h'
        exact fun σ'' H'' ρ'' A3 F3 fr3 rel3 n3 => let ⟨e2, e3, e5, _⟩ := fin fr3 rel3 n3; ⟨σ3, s3, ρ'', A3, F3, rel3, e2, e3, e5, h'⟩
      | ct σ3 s3 =>
        simp only [ebd] at h'
        exact fun σ'' H'' ρ'' A3 F3 fr3 rel3 n3 => let ⟨e2, e3, e5, _⟩ := fin fr3 rel3 n3; ⟨σ3, s3, ρ'', A3, F3, rel3, e2, e3, e5, h'⟩
      | bk σ3 s3 =>
        simp only [ebd] at h'
        exact fun σ'' H'' ρ'' A3 F3 fr3 rel3 n3 => let ⟨_, _, e5, e6⟩ := fin fr3 rel3 n3; h' σ'' H'' ρ'' A3 F3 e6 rel3 e5
      | rt d s3 =>
        simp only [ebd] at h'
        intro v H'' ρ'' a3 f3 fr3 wd3 rp3 o3
        have e1 : Fr A0 H1 H2 ρ1 ρ' := fr'.trans (Fr.of_same (Mc := c0) sm) fun _ z => no0 z
        have e4 : Fr A H H2 ρ ρ' := fr0.trans e1 fun x z => (n0 x).1 z
        have e5 : Nx A F H A2 F2 := fun x => by
          have l2 := le2 x
          obtain ⟨p, q⟩ := n' x
          refine ⟨fun z => p (by omega), fun z => ?_⟩
          rcases l2.2 z with w | w
          · exact q w
          · exact hfp x (by have := le x; omega)
        exact h' v H'' ρ'' a3 f3 (e4.thenN e5 fr3) wd3 rp3 (o3.stepN e4 e5)
      | ex x σ3 s3 =>
        simp only [ebd] at h'
        exact fun cls dd σ'' H'' ρ'' A3 F3 fr3 rel3 n3 rx => let ⟨_, _, e5, e6⟩ := fin fr3 rel3 n3; h' cls dd σ'' H'' ρ'' A3 F3 e6 rel3 e5 rx
  · rintro σ' H' ⟨σm', s', ρ', A', F', rel', fr', o', n', h'⟩
    rw [List.drop_length] at h'
    exact h' σ' H' ρ' A' F' (fr0.trans fr' fun x z => (n0 x).1 z) rel' n'
theorem Rel.frzd {msk : List Bool} {Am Fm Ar F2 : Cnt} (rel : Rel K mg σm s σ H ρ A F) (r2 : EnvR K mg H ρ (frzE msk σm) σ Ar F2) (q : ∀ x, A x = Am x + Ar x ∧ Fm x ≤ F x ∧ (1 ≤ F2 x → 1 ≤ F x ∨ 1 ≤ Am x)) : Rel K mg (frzE msk σm) s σ H ρ Ar F2 ∧ Nx A F H Ar F2 :=
  ⟨⟨r2, rel.wd, fun x => by
    have s0 := rel.sep x
    have q0 := q x
    refine ⟨by omega, fun z => ?_⟩
    have := s0.2 (by omega)
    by_cases w : 1 ≤ F2 x
    · have := q0.2.2 w; omega
    · omega⟩, fun x => by
    have q0 := q x
    refine ⟨fun z => .inl (by omega), fun z => ?_⟩
    rcases q0.2.2 z with w | w
    · exact .inr (.inl w)
    · exact .inl (by omega)⟩
end
section
variable {X : Cx} {W : WX} {tge iter c : Expr} {src : Src} {tg : Tg} {body : MS} {t : T} {m : M} {ss : List Stmt} {pos : Pos}
theorem ss_for (msk : List Bool) (hp : PassesOwn (model X.prog X.w) X.A X.env X.xe) (hc : X.calm = true) (hi : SI X W false tge iter src) (hg : SG X tge tg) (hb : SSs X W ss body) (hs : ∀ x, foldedSetIterable iter X.env x = pure x := by intro _; rfl) :
    SS X W (.For tge iter ss [] pos) (mFor msk src tg body) :=
  PS.imp (ps_for hp hc hi hg hb hs) fun D σ H ⟨σm, s, ρ, A, F, rel, h⟩ => by
    obtain ⟨Am, Fm, Ar, F2, r1, r2, q⟩ := rel.mask (msk := msk)
    refine ⟨_, s, ρ, Am, Fm, r1, ?_⟩
    unfold mFor at h
    cases e : src (restr msk σm) s with
    | bad => rw [e] at h; exact h
    | ex x s1 =>
      rw [e] at h
      exact fun cls dd H' ρ' fr wd rx => h cls dd σ H' ρ' A F fr.up (rel.next fr wd) .refl rx
    | ok items s1 =>
      rw [e] at h
      intro J H1 ρ1 f fr wd it hf
      obtain ⟨rel2, n2⟩ := rel.frzd r2 q
      have ev := rel.env.there
      refine for_core it (rel2.next fr wd) fr.up n2 (fun x z => ?_) (fun x z => ?_) h
      · have q0 := q x
        have s0 := rel.sep x
        by_cases w : 1 ≤ Ar x
        · rcases (hf x z).2 with u | u | u
          · omega
          · have := s0.2 (by omega); omega
          · obtain ⟨⟨o, ho⟩, _⟩ := ev x (by omega)
            rw [u] at ho; cases ho
        · omega
      · have q0 := q x
        rcases (hf x z).2 with u | u | u
        · exact .inl (by omega)
        · exact .inr (.inl (by omega))
        · exact .inr (.inr u)
theorem ss_forP (hp : PassesOwn (model X.prog X.w) X.A X.env X.xe) (hc : X.calm = true) (hi : SI X W true tge iter src) (hg : SG X tge tg) (hb : SSs X W ss body) (hs : ∀ x, foldedSetIterable iter X.env x = pure x := by intro _; rfl) :
    SS X W (.For tge iter ss [] pos) (mForP src tg body) :=
  PS.imp (ps_for hp hc hi hg hb hs) fun D σ H ⟨σm, s, ρ, A, F, rel, h⟩ => by
    refine ⟨_, s, ρ, A, F, rel, ?_⟩
    unfold mForP at h
    cases e : src σm s with
    | bad => rw [e] at h; exact h
    | ex x s1 =>
      rw [e] at h
      exact fun cls dd H' ρ' fr wd rx => h cls dd σ H' ρ' A F fr.up (rel.next fr wd) .refl rx
    | ok items s1 =>
      rw [e] at h
      intro J H1 ρ1 f fr wd it hf
      exact for_core it (rel.next fr wd) fr.up .refl (fun x z => Bool.noConfusion (hf x z).1) (fun x z => Bool.noConfusion (hf x z).1) h
end
end Zm
set_option Elab.async false
set_option linter.all false
set_option maxRecDepth 100000
set_option autoImplicit false
/-! Z8: list comprehensions. -/
namespace Zm
open PySem PySem.Spec PyProof.Rows L2
abbrev W0 : WX := fun _ _ _ _ => False
section
variable {K : PySem.W.Frag} {mg : Str → Option Value} {W : WX} {H H1 H4 : Hp} {ρ ρ1 : List Addr} {σm σ0 : Env} {σ : L2.St} {s s1 : Sto} {A F A0 F0 a f a2 f2 : Cnt}
theorem Gd.add (g : Gd A F H a f) (th : ∀ x, 1 ≤ a x + f x → ∃ o, H4 x = some o) (g2 : Gd A F H4 a2 f2) (n1 : ∀ x, H4 x = none → H x = none) (ev : ∀ x, 1 ≤ A x + F x → ∃ o, H x = some o) : Gd A F H (fun x => a x + a2 x) (fun x => f x + f2 x) := fun x => by
  obtain ⟨p1, p2, p3⟩ := g x
  obtain ⟨q1, q2, q3⟩ := g2 x
  have th := th x
  have ev := ev x
  have n1 := n1 x
  dsimp only
  by_cases ha : 1 ≤ a x
  · obtain ⟨o, ho⟩ := th (by omega)
    have z2 : a2 x = 0 := Nat.eq_zero_of_not_pos fun w => by have := (q2 w).2; rw [ho] at this; cases this
    have z3 : f2 x = 0 := Nat.eq_zero_of_not_pos fun w => by
      have hn := (p2 ha).2
      rcases q3 w with z | z | z
      · obtain ⟨o', ho'⟩ := ev (by omega); rw [hn] at ho'; cases ho'
      · obtain ⟨o', ho'⟩ := ev (by omega); rw [hn] at ho'; cases ho'
      · rw [ho] at z; cases z
    have := p2 ha
    exact ⟨by omega, fun _ => ⟨by omega, this.2⟩, fun h => by omega⟩
  · refine ⟨by omega, fun h => ?_, fun h => ?_⟩
    · have z := q2 (by omega)
      have zf : f x = 0 := Nat.eq_zero_of_not_pos fun w => by obtain ⟨o, ho⟩ := th (by omega); rw [z.2] at ho; cases ho
      exact ⟨by omega, n1 z.2⟩
    · by_cases z : 1 ≤ f x
      · exact p3 z
      · rcases q3 (by omega) with y | y | y
        · exact .inl y
        · exact .inr (.inl y)
        · exact .inr (.inr (n1 y))
theorem EnvR.fz : ∀ {σm : Env} {σ : L2.St} {A F : Cnt}, EnvR K mg H ρ σm σ A F → ∃ F', EnvR K mg H ρ (fzE σm) σ c0 F' ∧ ∀ x, 1 ≤ F' x → 1 ≤ A x + F x
  | _, _, _, _, .nil a f => ⟨c0, .nil (fun _ => rfl) (fun _ => rfl), fun _ z => no0 z⟩
  | _, _, _, _, .no t => let ⟨F', r, q⟩ := EnvR.fz t; ⟨F', .no r, q⟩
  | _, _, _, _, .yes h t e1 e2 => by
    obtain ⟨F1, r1, q1⟩ := h.fz
    obtain ⟨F2, r2, q2⟩ := EnvR.fz t
    refine ⟨fun x => F1 x + F2 x, .yes r1 r2 (fun _ => rfl) (fun _ => rfl), fun x hx => ?_⟩
    have hx : 1 ≤ F1 x + F2 x := hx
    rw [e1, e2]
    by_cases z : 1 ≤ F1 x
    · have := q1 x z; omega
    · have := q2 x (by omega); omega
theorem EnvR.unset : ∀ {σm : Env} {σ : L2.St} {A F : Cnt} (i : Nat), EnvR K mg H ρ σm σ A F → ∃ A' F', EnvR K mg H ρ (σm.set i none) (σ.set i none) A' F' ∧ ∀ x, A' x ≤ A x ∧ F' x ≤ F x
  | _, _, A, F, i, .nil a f => ⟨A, F, .nil a f, fun _ => ⟨Nat.le_refl _, Nat.le_refl _⟩⟩
  | _, _, A, F, 0, .no t => ⟨A, F, .no t, fun _ => ⟨Nat.le_refl _, Nat.le_refl _⟩⟩
  | _, _, A, F, i + 1, .no t => let ⟨A', F', r, q⟩ := EnvR.unset i t; ⟨A', F', .no r, q⟩
  | _, _, A, F, 0, .yes h t e1 e2 => ⟨_, _, .no t, fun x => by rw [e1, e2]; omega⟩
  | _, _, A, F, i + 1, .yes h t e1 e2 => by
    obtain ⟨A', F', r, q⟩ := EnvR.unset i t
    exact ⟨_, _, .yes h r (fun _ => rfl) (fun _ => rfl), fun x => by have := q x; rw [e1, e2]; omega⟩
theorem EnvR.wipe : ∀ {vs : List Nat}, EnvR K mg H ρ σm σ A F → ∃ A' F', EnvR K mg H ρ (wipeE σm vs) (L2.wipe σ vs) A' F' ∧ ∀ x, A' x ≤ A x ∧ F' x ≤ F x
  | [], h => ⟨A, F, h, fun _ => ⟨Nat.le_refl _, Nat.le_refl _⟩⟩
  | v :: vs, h => by
    obtain ⟨A', F', r, q⟩ := EnvR.wipe (vs := vs) h
    obtain ⟨A2, F2, r2, q2⟩ := r.unset v
    exact ⟨A2, F2, r2, fun x => by have := q x; have := q2 x; omega⟩
theorem wipe_get {σ : L2.St} {j : Nat} : ∀ {vs : List Nat}, (L2.wipe σ vs)[j]? = if j < σ.length then (if j ∈ vs then some none else σ[j]?) else none
  | [] => by
    unfold L2.wipe
    by_cases h : j < σ.length
    · rw [if_pos h, if_neg (by simp)]
    · rw [if_neg h]; simp; omega
  | v :: vs => by
    unfold L2.wipe
    rw [List.getElem?_set]
    by_cases h : j < σ.length
    · rw [if_pos h]
      by_cases e : v = j
      · subst e
        rw [if_pos rfl, if_pos (by rw [wipe_length]; exact h), if_pos (by simp)]
      · rw [if_neg e, wipe_get (vs := vs), if_pos h]
        by_cases m : j ∈ vs
        · rw [if_pos m, if_pos (by simp [m])]
        · rw [if_neg m, if_neg (by simp [m]; exact fun z => e z.symm)]
    · rw [if_neg h]
      split
      · rename_i e; subst e
        rw [if_neg (by rw [wipe_length]; exact h)]
      · rw [wipe_get (vs := vs), if_neg h]
theorem wipe_chg {σ σ' : L2.St} {ss vs : List Nat} (h : Chg ss (L2.wipe σ vs) σ') (hs : ∀ j ∈ ss, j ∈ vs) : L2.wipe σ' vs = L2.wipe σ vs := by
  apply List.ext_getElem?
  intro j
  have hl : σ'.length = σ.length := by rw [h.1, wipe_length]
  rw [wipe_get, wipe_get, hl]
  by_cases hj : j < σ.length
  · rw [if_pos hj, if_pos hj]
    by_cases m : j ∈ vs
    · rw [if_pos m, if_pos m]
    · rw [if_neg m, if_neg m, h.2 j fun z => m (hs j z), wipe_get, if_pos hj, if_neg m]
  · rw [if_neg hj, if_neg hj]
/-- a list of our own, kept apart, is written -/
theorem wd_upd {p : Addr} {l l' : List V} (wd : Wd K mg ρ s H) (hp : H p = some (.lst l)) (hn : p ∉ ρ) : Wd K mg ρ s (upd H p (.lst l')) ∧ Fr (cp p) H (upd H p (.lst l')) ρ ρ := by
  have fr : Fr (cp p) H (upd H p (.lst l')) ρ ρ := by
    refine ⟨fun x o q => ?_, fun x q => ?_, [], by simp, by simp⟩
    · by_cases z : x = p
      · subst z
        rw [hp] at q; cases q
        exact .inr ⟨trivial, .inr (by rw [cp_same]; omega)⟩
      · rw [upd_ne z]; exact .inl q
    · by_cases z : x = p
      · subst z; rw [upd_same] at q; cases q
      · rw [upd_ne z] at q; exact q
  refine ⟨⟨wd.len, wd.nd, fun n b ys z1 z2 => ?_⟩, fr⟩
  obtain ⟨w1, ws, a, f, w2, w3⟩ := wd.at_ n b ys z1 z2
  have nb : b ≠ p := fun z => hn (z ▸ List.mem_of_getElem? z1)
  have zz := w3.plain w1
  exact ⟨w1, ws, a, f, by rw [upd_ne nb]; exact w2, w3.frame fr fun x _ => zz x⟩
end
section
variable {K : PySem.W.Frag} {mg : Str → Option Value} {W : WX} {H : Hp} {σ : L2.St} {src : Src} {tg : Tg} {vs : List Nat} {t : T} {m : M} {z : Bool}
theorem rE_lc {Q : VK} (h : rE K mg W (mLc src tg vs t m) σ H Q) : tLc (rI K mg W false src) (rG K mg tg) (rT K mg W0 t) (rE K mg W0 m) vs σ H Q := by
  obtain ⟨σm, s, ρ, A, F, rel, h⟩ := h
  refine ⟨σm, s, ρ, A, F, rel, ?_⟩
  unfold mLc at h
  cases e : src σm s with
  | bad => rw [e] at h; exact h
  | ex x s1 => rw [e] at h; exact h
  | ok items s1 =>
    rw [e, Zm.R.bind_ok] at h
    intro J H1 ρ1 f fr wd it hf Da hDa
    by_cases hw : tg.within vs = true
    rotate_left
    · rw [if_neg hw] at h; exact h.elim
    rw [if_pos hw] at h
    have hss : ∀ j ∈ tg.slots, j ∈ vs := fun j hj => by
      unfold Tg.within at hw
      have := List.all_eq_true.mp hw j hj
      simpa using this
    obtain ⟨hft, G, Y, wk, st⟩ := it
    have rel1 := rel.next fr wd
    have sm0 : Same H1 (upd H1 Da (.lst [])) := same_upd hDa
    have nD : Da ∉ ρ1 := fun z => by obtain ⟨l, q⟩ := wd.lst z; rw [hDa] at q; cases q
    have fD : f Da = 0 := Nat.eq_zero_of_not_pos fun w => by obtain ⟨o, ho⟩ := hft Da w; rw [hDa] at ho; cases ho
    obtain ⟨Fz, envz, hFz⟩ := rel1.env.fz
    obtain ⟨Aw, Fw, envw, hw2⟩ := envz.wipe (vs := vs)
    have zAw : ∀ x, Aw x = 0 := fun x => by have := (hw2 x).1; have z0 : c0 x = 0 := rfl; omega
    have FwD : Fw Da = 0 := Nat.eq_zero_of_not_pos fun w => by
      have := hFz Da (by have := (hw2 Da).2; omega)
      obtain ⟨⟨o, ho⟩, _⟩ := rel1.env.there Da this
      rw [hDa] at ho; cases ho
    let F1 : Cnt := fun x => F x + f x
    have ev1 : ∀ x, 1 ≤ A x + F1 x → ∃ o, H1 x = some o := fun x z => by
      have z : 1 ≤ A x + (F x + f x) := z
      by_cases w : 1 ≤ f x
      · exact hft x w
      · exact (rel1.env.there x (by omega)).1
    refine lc_it wk (fun i H' => ∃ s' ρ' acc vs' a f', Fr (cp Da) (upd H1 Da (.lst [])) H' ρ1 ρ' ∧ Wd K mg ρ' s' H' ∧ H' Da = some (.lst vs') ∧ Da ∉ ρ' ∧ Reps K mg H' ρ' acc vs' a f' ∧ Gd A F1 H1 a f' ∧ a Da = 0 ∧ f' Da = 0 ∧ oE K mg W σ A F H ρ Q (lcR tg t m (wipeE (fzE σm) vs) (items.drop i) acc s'))
      ⟨s1, ρ1, [], [], c0, c0, .refl, wd.same sm0, upd_same, nD, .nil (fun _ => rfl) (fun _ => rfl), .zero (fun _ => rfl) (fun _ => rfl), rfl, rfl, by simpa using h⟩ ?_ ?_ ?_
    · rintro i H' _ ⟨s', ρ', acc, vs', a, f', fr', _⟩
      have fr2 : Fr (cp Da) H1 H' ρ1 ρ' := Fr.trans (Fr.of_same (Mc := cp Da) sm0) fr' fun x z => .inl z
      exact (st (cp Da) H' ρ' fr2 fun x z => by
        by_cases w : x = Da
        · rw [w]; exact fD
        · rw [cp_ne w] at z; omega).1
    · rintro i x H' H2 hi ⟨s', ρ', acc, vs', a, f', fr', wd', hD', nD', rps, gd, aD, fD', h'⟩ hy
      have fr2 : Fr (cp Da) H1 H' ρ1 ρ' := Fr.trans (Fr.of_same (Mc := cp Da) sm0) fr' fun x z => .inl z
      have hit : items[i]? = some items[i] := List.getElem?_eq_getElem hi
      obtain ⟨sm, f2, rp, le⟩ := (st (cp Da) H' ρ' fr2 fun x z => by
        by_cases w : x = Da
        · rw [w]; exact fD
        · rw [cp_ne w] at z; omega).2 i _ x H2 hit hy
      rw [List.drop_eq_getElem_cons hi] at h'
      unfold lcR at h'
      cases eb : tg.bind items[i] (wipeE (fzE σm) vs) with
      | none => simp only [eb] at h'; exact h'.elim
      | some σ1 =>
        simp only [eb] at h'
        have env2 : EnvR K mg H2 ρ' (wipeE (fzE σm) vs) (L2.wipe σ vs) Aw Fw := ((envw.frame fr2 fun x z => ⟨zAw x, by
          by_cases w : x = Da
          · rw [w]; exact FwD
          · rw [cp_ne w] at z; omega⟩)).frame (Fr.of_same (Mc := c0) sm) fun _ z => no0 z
        have relw : Rel K mg (wipeE (fzE σm) vs) s' (L2.wipe σ vs) H2 ρ' Aw Fw := ⟨env2, wd'.same sm, fun x => ⟨by have := zAw x; omega, fun z => by have := zAw x; omega⟩⟩
        refine ⟨_, s', ρ', Aw, Fw, _, f2, relw, rp, fun x _ => zAw x, σ1, eb, fun σ2 A2 F2 rel2 le2 ch => ⟨wipe_chg ch hss, ?_⟩⟩
        have zA2 : ∀ x, A2 x = 0 := fun x => by have := (le2 x).1; have := zAw x; omega
        have F2s : ∀ x, 1 ≤ F2 x → 1 ≤ A x ∨ 1 ≤ F1 x := fun x z => by
          rcases (le2 x).2 z with w | w
          · have := hFz x (by have := (hw2 x).2; omega)
            by_cases u : 1 ≤ A x
            · exact .inl u
            · exact .inr (show 1 ≤ F x + f x by omega)
          · exact .inr (show 1 ≤ F x + f x by have := le x; omega)
        have F2D : F2 Da = 0 := Nat.eq_zero_of_not_pos fun w => by
          rcases (le2 Da).2 w with u | u
          · omega
          · have := le Da; omega
        refine ⟨σ1, s', ρ', A2, F2, rel2, ?_⟩
        have hD2 : H2 Da = some (.lst vs') := sm _ _ hD'
        cases et : t σ1 s' with
        | bad => simp only [et] at h'; exact h'.elim
        | ex y s3 => simp only [et] at h'; exact h'.elim
        | ok b s3 =>
          simp only [et] at h'
          intro H4 ρ4 fr4 wd4
          have hD4 : H4 Da = some (.lst vs') := by
            rcases fr4.keep _ _ hD2 with y | ⟨_, y | y⟩
            · exact y
            · exact (nD' y).elim
            · exact no0 y
          have frA : Fr (cp Da) (upd H1 Da (.lst [])) H4 ρ1 ρ4 := (fr'.trans (Fr.of_same (Mc := c0) sm) fun _ z => no0 z).trans fr4 fun _ z => no0 z
          have rps4 : Reps K mg H4 ρ4 acc vs' a f' := (rps.sm sm).on fr4
          cases b with
          | false => exact iteF ⟨s3, ρ4, acc, vs', a, f', frA, wd4, hD4, fr4.nmem hD2 nD', rps4, gd, aD, fD', by simpa using h'⟩
          | true =>
            refine iteT ⟨σ1, s3, ρ4, A2, F2, rel2.next fr4 wd4, ?_⟩
            rw [if_pos rfl] at h'
            cases em : m σ1 s3 with
            | bad => simp only [em] at h'; exact h'.elim
            | ex y s5 => simp only [em] at h'; exact h'.elim
            | ok xd s5 =>
              simp only [em] at h'
              intro v H5 ρ5 a5 f5 fr5 wd5 rp5 g5
              split at h'
              · rename_i hz
                have hD5 : H5 Da = some (.lst vs') := by
                  rcases fr5.keep _ _ hD4 with y | ⟨_, y | y⟩
                  · exact y
                  · exact (fr4.nmem hD2 nD' y).elim
                  · exact no0 y
                have nD5 : Da ∉ ρ5 := fr5.nmem hD4 (fr4.nmem hD2 nD')
                obtain ⟨wd6, fr6⟩ := wd_upd (l' := vs' ++ [v]) wd5 hD5 nD5
                have a5D : a5 Da = 0 := Nat.eq_zero_of_not_pos fun w => by have := ((g5 Da).2.1 w).2; rw [hD4] at this; cases this
                have f5D : f5 Da = 0 := Nat.eq_zero_of_not_pos fun w => by
                  rcases (g5 Da).2.2 w with u | u | u
                  · have := zA2 Da; omega
                  · omega
                  · rw [hD4] at u; cases u
                have off : ∀ {a f : Cnt}, a Da = 0 → f Da = 0 → ∀ x, 1 ≤ cp Da x → a x = 0 ∧ f x = 0 := fun h1 h2 x z => by
                  by_cases w : x = Da
                  · rw [w]; exact ⟨h1, h2⟩
                  · rw [cp_ne w] at z; omega
                have g5' : Gd A F1 H4 a5 f5 := fun x => ⟨(g5 x).1, (g5 x).2.1, fun w => by
                  rcases (g5 x).2.2 w with u | u | u
                  · have := zA2 x; omega
                  · exact (F2s x u).elim .inl fun u => .inr (.inl u)
                  · exact .inr (.inr u)⟩
                refine ⟨vs', hD5, by rw [← rps.length]; exact hz, s5, ρ5, acc ++ [xd], vs' ++ [v], _, _, ?_, wd6, upd_same, nD5, ((rps4.on fr5).frame fr6 (off aD fD')).append (Reps.one (rp5.frame fr6 (off a5D f5D))), ?_, ?_, ?_, h'⟩
                · exact (frA.trans fr5 fun _ z => no0 z).trans fr6 fun x z => .inl z
                · exact gd.add (fun x z => (rps4.there x z).1) g5' (fun x z => by have := frA.there x z; by_cases w : x = Da; (rw [w]; exact hDa); (rw [upd_ne w] at this; exact this)) ev1
                · show a Da + a5 Da = 0; omega
                · show f' Da + f5 Da = 0; omega
              · exact h'.elim
    · rintro H' ⟨s', ρ', acc, vs', a, f', fr', wd', hD', nD', rps, gd, aD, fD', h'⟩
      rw [List.drop_length] at h'
      have fr2 : Fr c0 H1 H' ρ1 ρ' := by
        refine ⟨fun x o q => ?_, fun x q => ?_, fr'.ext.imp fun r ⟨e, n⟩ => ⟨e, fun p hp => ?_⟩⟩
        · rcases fr'.keep x o (sm0 x o q) with y | ⟨l, y | y⟩
          · exact .inl y
          · exact .inr ⟨l, .inl y⟩
          · by_cases w : x = Da
            · rw [w, hDa] at q; cases q
            · rw [cp_ne w] at y; omega
        · have := fr'.there x q
          exact sm0.free this
        · exact sm0.free (n p hp)
      refine h' (.ref Da) H' ρ' (fun x => cp Da x + a x) f' (fr.tr fr2) wd' (.own hD' nD' rps (fun _ => rfl)) fun x => ?_
      obtain ⟨g1, g2, g3⟩ := gd x
      have g3' : 1 ≤ f' x → 1 ≤ A x ∨ 1 ≤ F x ∨ H x = none := fun z => by
        rcases g3 z with w | w | w
        · exact .inl w
        · have w : 1 ≤ F x + f x := w
          by_cases u : 1 ≤ F x
          · exact .inr (.inl u)
          · exact (hf x (by omega)).2
        · exact .inr (.inr (fr.there x w))
      dsimp only
      by_cases w : x = Da
      · subst w
        rw [cp_same]
        exact ⟨by omega, fun _ => ⟨fD', fr.there _ hDa⟩, g3'⟩
      · rw [cp_ne w]
        exact ⟨by omega, fun z => ⟨(g2 (by omega)).1, fr.there x (g2 (by omega)).2⟩, g3'⟩
end
section
variable {X : Cx} {W : WX} {tge iter elt c : Expr} {ifs : List Expr} {src : Src} {tg : Tg} {t : T} {m : M} {pos : Pos} {scope : Scope} {own : List (Str × Nat)}
def STs (X : Cx) (W : WX) (es : List Expr) (t : T) : Prop := PTs X es (rT X.K X.mg W t)
theorem sts_nil : STs X W [] tTrue := ⟨fun pins s σ H Q I ⟨σm, s', ρ, A, F, rel, h⟩ => pts_nil.run pins s σ H Q I (h H ρ .refl rel.wd)⟩
theorem sts_one (h : ST X W c t) : STs X W [c] t := pts_one h
theorem s_lc (hc : X.calm = true) (nd : X.N.Nodup) (hi : SI X W false tge iter src) (ok : BlkOk X.N X.env.scope scope own)
    (hg : ∀ (s : Shared) (H : Hp) (C : Addr) (cl : List (Str × Addr)) (fp : List Addr), SG (X.blk s H scope (compEnvC scope cl C X.env) fp) tge tg)
    (ht : ∀ (s : Shared) (H : Hp) (C : Addr) (cl : List (Str × Addr)) (fp : List Addr), STs (X.blk s H scope (compEnvC scope cl C X.env) fp) W0 ifs t)
    (he : ∀ (s : Shared) (H : Hp) (C : Addr) (cl : List (Str × Addr)) (fp : List Addr), SE (X.blk s H scope (compEnvC scope cl C X.env) fp) W0 elt m) (hs : ∀ x, foldedSetIterable iter X.env x = pure x := by intro _; rfl) :
    SE X W (.ListComp elt [⟨tge, iter, ifs, 0⟩] scope pos) (mLc src tg (own.map (·.2)) t m) :=
  PE.imp (pe_lc (g := rG X.K X.mg tg) (tt := rT X.K X.mg W0 t) (te := rE X.K X.mg W0 m) hc nd hi ok hg ht he hs) fun σ H Q h => rE_lc h
theorem SI.weak (h : SI X W true tge iter src) : SI X W false tge iter src := PI.imp h fun σ H Q ⟨σm, s, ρ, A, F, rel, q⟩ => by
  refine ⟨σm, s, ρ, A, F, rel, ?_⟩
  cases e : src σm s with
  | bad => rw [e] at q; exact q
  | ex x s1 => rw [e] at q; exact q
  | ok ds s1 => rw [e] at q; exact fun J H' ρ' f a b c d => q J H' ρ' f a b c fun x z => Bool.noConfusion (d x z).1
end
end Zm
set_option Elab.async false
set_option linter.all false
set_option maxRecDepth 100000
set_option autoImplicit false
/-! Z9: what is walked: lists, tuples, ranges, zip, enumerate, reversed. -/
namespace Zm
open PySem PySem.Spec PyProof.Rows L2
def itemsOf : D → Option (List D)
  | .lst _ xs => some (fzs xs)
  | .tup xs => some (fzs xs)
  | .ro ns => some (ns.map .int)
  | _ => none
/-- the signs of a text -/
def signs (z : Str) : List D := z.cps.toList.map fun c => .str ⟨#[c]⟩
def iSeq (m : M) : Src := fun σ s => (m σ s).bind fun d s' => match d with
  | .str z => .ok (signs z) s'
  | d => R.of (itemsOf d) s'
def zip2 (xs ys : List D) : List D := List.zipWith (fun x y => .tup [x, y]) xs ys
def iZip2 (ms : List M) : Src := fun σ s => (mArgs ms σ s).bind fun ds s' => match ds with
  | [a, b] => (match itemsOf a, itemsOf b with
    | some xs, some ys => .ok (zip2 xs ys) s'
    | _, _ => .bad)
  | _ => .bad
section
variable {K : PySem.W.Frag} {mg : Str → Option Value} {H : Hp} {ρ : List Addr}
theorem reps_ints : ∀ ns : List Int, Reps K mg H ρ (ns.map D.int) (ns.map V.int) c0 c0
  | [] => .nil (fun _ => rfl) (fun _ => rfl)
  | n :: ns => .cons (.int (fun _ => rfl) (fun _ => rfl)) (reps_ints ns) (A := c0) (F := c0) (a := c0) (f := c0) (fun _ => rfl) (fun _ => rfl)
/-- a row that is walked -/
theorem sq_of {d : D} {xs : List D} {v : V} {a f : Cnt} (e : itemsOf d = some xs) (r : Rep K mg H ρ d v a f) : ∃ (b : Bool) (p : Addr) (vs : List V) (f' : Cnt), v = .ref p ∧ Zi.Sq K b H p vs ∧ Reps K mg H ρ xs vs c0 f' ∧ (∀ x, 1 ≤ f' x → ∃ o, H x = some o) ∧
    (b = true → ∃ ds, d = .tup ds) ∧ (b = false → (∃ o ds, d = .lst o ds) ∨ ∃ ns, d = .ro ns) ∧ ∃ g : Cnt, (∀ x, f' x ≤ g x) ∧ (∀ x, 1 ≤ g x → 1 ≤ a x + f x) ∧ ∀ (Mc : Cnt) (H1 : Hp) (ρ1 : List Addr), Fr Mc H H1 ρ ρ1 → (∀ x, 1 ≤ Mc x → g x = 0) → Zi.Sq K b H1 p vs := by
  obtain ⟨f2, r2, q⟩ := r.fz
  cases d <;> simp only [itemsOf, Option.some.injEq, reduceCtorEq] at e
  · subst e
    cases r2 with
    | tup h t => exact ⟨true, _, _, _, rfl, SqT.of h, t, fun x z => (t.there x (by omega)).1, fun _ => ⟨_, rfl⟩, fun z => Bool.noConfusion z, f2, fun _ => Nat.le_refl _, q, fun Mc H1 ρ1 fr _ => SqT.of (fr.rdT h)⟩
  · subst e
    cases r2 with
    | frz h hp t e =>
      refine ⟨false, _, _, _, rfl, SqL.of h, t, fun x z => (t.there x (by omega)).1, fun z => Bool.noConfusion z, fun _ => .inl ⟨_, _, rfl⟩, f2, fun x => by rw [e]; omega, q, fun Mc H1 ρ1 fr hm => ?_⟩
      rcases fr.keep _ _ h with z | ⟨_, z | z⟩
      · exact SqL.of z
      · exact (hp z).elim
      · have := hm _ z; rw [e, cp_same] at this; omega
  · subst e
    cases r2 with
    | ro h z1 z2 =>
      refine ⟨false, _, _, c0, rfl, h.L, ?_, fun x z => no0 z, fun z => Bool.noConfusion z, fun _ => .inr ⟨_, rfl⟩, c0, fun _ => Nat.le_refl _, fun _ z => no0 z, fun Mc H1 ρ1 fr _ => (fr.rdR h).L⟩
      exact reps_ints _
/-- ItOK for one row -/
theorem it_row {J : It} {ds : List D} {vs : List V} {f g : Cnt} {S : Hp → Prop} (t : Reps K mg H ρ ds vs c0 f) (le : ∀ x, f x ≤ g x) (th : ∀ x, 1 ≤ g x → ∃ o, H x = some o) (stay : ∀ (Mc : Cnt) (H1 : Hp) (ρ1 : List Addr), Fr Mc H H1 ρ ρ1 → (∀ x, 1 ≤ Mc x → g x = 0) → S H1)
    (wk : Walk J vs.length S (YAt vs)) : ItOK K mg J ds H ρ g := by
  refine ⟨th, S, YAt vs, by rw [t.length]; exact wk, fun Mc H1 ρ1 fr hm => ⟨stay Mc H1 ρ1 fr hm, fun i d x H2 e y => ?_⟩⟩
  obtain ⟨rfl, hx⟩ := y
  have t1 := t.frame fr fun x hx => ⟨rfl, by have := hm x hx; have := le x; omega⟩
  obtain ⟨v, a', f2, e2, rp, le2⟩ := t1.at e
  rw [e2] at hx; cases hx
  have za : a' = c0 := funext fun x => by have := (le2 x).1; have z0 : c0 x = 0 := rfl; omega
  subst za
  exact ⟨fun _ _ h => h, f2, rp, fun x => by have := (le2 x).2; have := le x; omega⟩
theorem g_there {d : D} {v : V} {a f g : Cnt} (r : Rep K mg H ρ d v a f) (q : ∀ x, 1 ≤ g x → 1 ≤ a x + f x) : ∀ x, 1 ≤ g x → ∃ o, H x = some o := fun x z => (r.there x (q x z)).1
theorem gd_src {A F a f g : Cnt} {H0 : Hp} (gd : Gd A F H0 a f) (q : ∀ x, 1 ≤ g x → 1 ≤ a x + f x) : ∀ x, 1 ≤ g x → false = false ∧ (1 ≤ A x ∨ 1 ≤ F x ∨ H0 x = none) := fun x z => ⟨rfl, by
  obtain ⟨p1, p2, p3⟩ := gd x
  have := q x z
  by_cases w : 1 ≤ a x
  · exact .inr (.inr (p2 w).2)
  · exact p3 (by omega)⟩
end
section
variable {X : Cx} {W : WX} {tge e e2 e3 : Expr} {m ma mb mc : M} {ms : List M} {es : List Expr} {p pos tpos : Pos} {elts : List Expr} {kk : Nat}
theorem si_seq (he : SE X W e m) : SI X W false tge e (iSeq m) := by
  constructor
  intro pins s0 σ H R I ⟨σm, s, ρ, A, F, rel, h⟩
  unfold iSeq at h
  have key : ∀ (Q : VK), oE X.K X.mg W σ A F H ρ Q (m σm s) → rE X.K X.mg W m σ H Q := fun Q q => ⟨σm, s, ρ, A, F, rel, q⟩
  cases em : m σm s with
  | bad => rw [em] at h; exact h.elim
  | ex x s1 =>
    rw [em] at h
    exact (pi_list he).run pins s0 σ H R I (key _ (by rw [em]; exact h))
  | ok d s1 =>
    rw [em, Zm.R.bind_ok] at h
    cases d with
    | str z =>
      refine (pi_str he).run pins s0 σ H R I (key _ ?_)
      rw [em]
      intro v H1 ρ1 a f fr wd rp gd
      cases rp
      refine ⟨z, rfl, h _ H1 ρ1 c0 fr wd ?_ fun x w => no0 w⟩
      refine ⟨fun _ hx => no0 hx, _, _, by unfold signs; rw [List.length_map, Array.length_toList]; exact walk_str, fun Mc H2 ρ2 fr2 hm => ⟨trivial, fun i d x H3 e y => ?_⟩⟩
      obtain ⟨rfl, c, ec, rfl⟩ := y
      unfold signs at e
      simp [ec] at e
      subst e
      exact ⟨fun _ _ h => h, c0, .str (fun _ => rfl) (fun _ => rfl), fun _ => Nat.le_refl _⟩
    | lst o ds =>
      refine (pi_list he).run pins s0 σ H R I (key _ ?_)
      rw [em]
      intro v H1 ρ1 a f fr wd rp gd
      obtain ⟨b, p, vs, f', ev, sq, t, th, b1, b2, g, le, q, stay⟩ := sq_of (xs := fzs ds) rfl rp
      have hb : b = false := by cases b with
        | false => rfl
        | true => obtain ⟨_, z⟩ := b1 rfl; cases z
      subst hb
      exact ⟨p, ev, ⟨vs, sq⟩, h _ H1 ρ1 g fr wd (it_row t le (g_there rp q) stay walk_list) (gd_src gd q)⟩
    | ro ns =>
      refine (pi_list he).run pins s0 σ H R I (key _ ?_)
      rw [em]
      intro v H1 ρ1 a f fr wd rp gd
      obtain ⟨b, p, vs, f', ev, sq, t, th, b1, b2, g, le, q, stay⟩ := sq_of (xs := ns.map D.int) rfl rp
      have hb : b = false := by cases b with
        | false => rfl
        | true => obtain ⟨_, z⟩ := b1 rfl; cases z
      subst hb
      exact ⟨p, ev, ⟨vs, sq⟩, h _ H1 ρ1 g fr wd (it_row t le (g_there rp q) stay walk_list) (gd_src gd q)⟩
    | tup ds =>
      refine (pi_tup he).run pins s0 σ H R I (key _ ?_)
      rw [em]
      intro v H1 ρ1 a f fr wd rp gd
      obtain ⟨b, p, vs, f', ev, sq, t, th, b1, b2, g, le, q, stay⟩ := sq_of (xs := fzs ds) rfl rp
      have hb : b = true := by cases b with
        | true => rfl
        | false => rcases b2 rfl with ⟨_, _, z⟩ | ⟨_, z⟩ <;> cases z
      subst hb
      exact ⟨p, ev, ⟨vs, sq⟩, h _ H1 ρ1 g fr wd (it_row t le (g_there rp q) stay walk_tup) (gd_src gd q)⟩
    | _ => exact h.elim
theorem inv_int {K : PySem.W.Frag} {mg : Str → Option Value} {H : Hp} {ρ : List Addr} {i : Int} {v : V} {A F : Cnt} (h : Rep K mg H ρ (.int i) v A F) : v = .int i := by cases h; rfl
theorem si_range1 (hm : X.mg "range" = none) (ha : SA X W [e] ms) (hg : Gl X "range" := by rfl) (hs : starEach [e] X.env = [(false, eval e X.env)] := by rfl) : SI X W true tge (.Call (.Name "range" p) [e] [] pos) (iR1 ms) :=
  PI.imp (pi_range1 hg hm ha hs) fun σ H R ⟨σm, s, ρ, A, F, rel, h⟩ => by
    refine ⟨σm, s, ρ, A, F, rel, ?_⟩
    unfold iR1 at h
    cases em : mArgs ms σm s with
    | bad => rw [em] at h; exact h
    | ex x s1 => rw [em] at h; exact h
    | ok ds s1 =>
      rw [em, Zm.R.bind_ok] at h
      intro vs H1 ρ1 a f fr wd rp gd
      split at h
      · split at h
        · rename_i hb
          simp only [big, decide_eq_true_eq] at hb
          obtain ⟨v, rfl, r⟩ := rp.inv1
          exact ⟨_, by rw [inv_int r], hb.1, hb.2, h _ H1 ρ1 c0 fr wd it_range fun x w => no0 w⟩
        · exact h.elim
      · exact h.elim
theorem si_range3 (hm : X.mg "range" = none) (ha : SA X W [e, e2, e3] ms) (hg : Gl X "range" := by rfl) (hs : starEach [e, e2, e3] X.env = (false, eval e X.env) :: starEach [e2, e3] X.env := by rfl) (hpl : (backTo pos (starEach [e2, e3] X.env)).any (·.1) = false := by rfl) : SI X W true tge (.Call (.Name "range" p) [e, e2, e3] [] pos) (iR3 ms) :=
  PI.imp (pi_range3 hg hm ha hs hpl) fun σ H R ⟨σm, s, ρ, A, F, rel, h⟩ => by
    refine ⟨σm, s, ρ, A, F, rel, ?_⟩
    unfold iR3 at h
    cases em : mArgs ms σm s with
    | bad => rw [em] at h; exact h
    | ex x s1 => rw [em] at h; exact h
    | ok ds s1 =>
      rw [em, Zm.R.bind_ok] at h
      intro vs H1 ρ1 a f fr wd rp gd
      split at h
      · split at h
        · rename_i hb
          simp only [big, decide_eq_true_eq] at hb
          obtain ⟨v, v', v'', _, _, _, _, _, _, rfl, r, r', r'', _⟩ := rp.inv3
          exact ⟨_, _, _, _, by rw [inv_int r, inv_int r', inv_int r'', hb.2.2], RgC.neg hb.1.1 hb.1.2 hb.2.1.1 hb.2.1.2, h _ H1 ρ1 c0 fr wd it_rangeC fun x w => no0 w⟩
        · exact h.elim
      · exact h.elim
theorem zip2_rd {σ : L2.St} {H : Hp} {R : It → Hp → Prop} (h : rI X.K X.mg W false (iZip2 ms) σ H R) : Zi.iZ2 X.K (rA X.K X.mg W (mArgs ms)) σ H R := by
    obtain ⟨σm, s, ρ, A, F, rel, h⟩ := h
    refine ⟨σm, s, ρ, A, F, rel, ?_⟩
    unfold iZip2 at h
    cases em : mArgs ms σm s with
    | bad => rw [em] at h; exact h
    | ex x s1 => rw [em] at h; exact h
    | ok ds s1 =>
      rw [em, Zm.R.bind_ok] at h
      intro vs H1 ρ1 a f fr wd rp gd
      split at h
      · split at h
        · rename_i d1 d2 xs ys e1 e2
          obtain ⟨v1, v2, a1, f1, a2, f2, rfl, r1, r2, eq⟩ := rp.inv2
          obtain ⟨b1, p1, vs1, f1', rfl, sq1, t1, th1, _, _, g1, le1, q1, st1⟩ := sq_of e1 r1
          obtain ⟨b2, p2, vs2, f2', rfl, sq2, t2, th2, _, _, g2, le2, q2, st2⟩ := sq_of e2 r2
          refine ⟨b1, b2, p1, p2, vs1, vs2, rfl, sq1, sq2, h _ H1 ρ1 (fun x => g1 x + g2 x) fr wd ⟨fun x w => ?_, fun H => Zi.Sq X.K b1 H p1 vs1 ∧ Zi.Sq X.K b2 H p2 vs2, YPair (fun i => vs1[i]?) (fun i => vs2[i]?), ?_, fun Mc H2 ρ2 fr2 hm => ?_⟩ (gd_src gd fun x w => ?_)⟩
          · have w : 1 ≤ g1 x + g2 x := w
            by_cases u : 1 ≤ g1 x
            · exact g_there r1 q1 x u
            · exact g_there r2 q2 x (by omega)
          · have hl : (zip2 xs ys).length = min vs1.length vs2.length := by unfold zip2; rw [List.length_zipWith, t1.length, t2.length]
            rw [hl]
            refine ⟨fun i H hi ⟨s1, s2⟩ => ?_, fun H ⟨s1, s2⟩ => ⟨vs1, vs2, s1, s2, by omega, by omega, by omega⟩, fun i H v H' hi ⟨s1, s2⟩ y => ?_⟩
            · exact ⟨vs1, vs2, vs1[i], vs2[i], s1, s2, List.getElem?_eq_getElem (by omega), List.getElem?_eq_getElem (by omega)⟩
            · obtain ⟨T, x, y', y1, y2, y3, y4, y5⟩ := y
              exact ⟨T, x, y', y1, y2, y3, y4 _ s1, y5 _ s2⟩
          · have hm : ∀ x, 1 ≤ Mc x → g1 x + g2 x = 0 := hm
            have h1 := st1 Mc H2 ρ2 fr2 fun x z => by have := hm x z; omega
            have h2 := st2 Mc H2 ρ2 fr2 fun x z => by have := hm x z; omega
            refine ⟨⟨h1, h2⟩, fun i d x H3 e y => ?_⟩
            obtain ⟨T, u1, u2, rfl, hT, rfl, w1, w2⟩ := y
            have w1 : vs1[i]? = some u1 := w1
            have w2 : vs2[i]? = some u2 := w2
            have t1' := t1.frame fr2 fun x hx => ⟨rfl, by have := hm x hx; have := le1 x; omega⟩
            have t2' := t2.frame fr2 fun x hx => ⟨rfl, by have := hm x hx; have := le2 x; omega⟩
            unfold zip2 at e
            rw [List.getElem?_zipWith_eq_some] at e
            obtain ⟨x1, x2, z1, z2, rfl⟩ := e
            obtain ⟨v1, a1', f3, e3, rp3, le3⟩ := t1'.at z1
            obtain ⟨v2, a2', f4, e4, rp4, le4⟩ := t2'.at z2
            rw [e3] at w1; cases w1
            rw [e4] at w2; cases w2
            have za : a1' = c0 := funext fun x => by have := (le3 x).1; have z0 : c0 x = 0 := rfl; omega
            have zb : a2' = c0 := funext fun x => by have := (le4 x).1; have z0 : c0 x = 0 := rfl; omega
            subst za zb
            exact ⟨same_upd hT, _, new_tup hT (.cons rp3 (Reps.one rp4) (fun _ => rfl) (fun _ => rfl)), fun x => by have := (le3 x).2; have := (le4 x).2; have := le1 x; have := le2 x; show f3 x + f4 x ≤ g1 x + g2 x; omega⟩
          · have w : 1 ≤ g1 x + g2 x := w
            have := eq x
            by_cases u : 1 ≤ g1 x
            · have := q1 x u; omega
            · have := q2 x (by omega); omega
        · exact h.elim
      · exact h.elim
theorem si_zip2 (hm : X.mg "zip" = none) (ha : SA X W [e, e2] ms) (hg : Gl X "zip" := by rfl) (hs : starEach [e, e2] X.env = (false, eval e X.env) :: starEach [e2] X.env := by rfl) (hpl : (backTo pos (starEach [e2] X.env)).any (·.1) = false := by rfl) :
    SI X W false (.Tuple elts kk tpos) (.Call (.Name "zip" p) [e, e2] [] pos) (iZip2 ms) :=
  PI.imp (Zi.pi_z2 hm ha hg hs hpl) fun σ H R h => zip2_rd h
end
end Zm
set_option Elab.async false
set_option linter.all false
set_option maxRecDepth 100000
set_option autoImplicit false
/-! Z10: operators, subscripts, comparisons by machine. -/
namespace Zm
open PySem PySem.Spec PyProof.Rows L2
section
variable {K : PySem.W.Frag} {mg : Str → Option Value} {H H' : Hp} {ρ : List Addr} {d e : D} {ds xs ys : List D} {v : V} {vs : List V} {a f a' f' a1 f1 : Cnt} {o : Bool}
theorem Sp1.le (h : Sp1 a f) (q : ∀ x, a1 x ≤ a x ∧ f1 x ≤ f x) : Sp1 a1 f1 := fun x => by
  have := h x; have := q x
  exact ⟨by omega, fun z => by have := (h x).2 (by omega); omega⟩
theorem Out.le (h : Out a1 f1 H a' f') (q : ∀ x, a1 x ≤ a x ∧ f1 x ≤ f x) : Out a f H a' f' := fun x => by
  obtain ⟨p1, p2, p3⟩ := h x
  have := q x
  refine ⟨p1, fun z => ⟨(p2 z).1, ?_⟩, fun z => ?_⟩
  · rcases (p2 z).2 with w | w
    · exact .inl w
    · exact .inr (by omega)
  · rcases p3 z with w | w | w
    · exact .inl (by omega)
    · exact .inr (.inl (by omega))
    · exact .inr (.inr w)
theorem inv_lst (h : Rep K mg H ρ (.lst o xs) v a f) : ∃ p vs a1 f1, v = .ref p ∧ H p = some (.lst vs) ∧ Reps K mg H ρ xs vs a1 f1 ∧ ∀ x, a1 x ≤ a x ∧ f1 x ≤ f x := by
  cases h with
  | own h _ t e => exact ⟨_, _, _, _, rfl, h, t, fun x => by rw [e]; omega⟩
  | frz h _ t e => exact ⟨_, _, _, _, rfl, h, t, fun x => by rw [e]; omega⟩
theorem inv_tup (h : Rep K mg H ρ (.tup xs) v a f) : ∃ p vs, v = .ref p ∧ H p = some (.tup vs) ∧ Reps K mg H ρ xs vs a f := by
  cases h with
  | tup h t => exact ⟨_, _, rfl, h, t⟩
theorem inv_str {z : Str} (h : Rep K mg H ρ (.str z) v a f) : v = .str z := by cases h; rfl
theorem inv_bl {b : Bool} (h : Rep K mg H ρ (.bl b) v a f) : v = .bl b := by cases h; rfl
mutual
theorem Rep.dp : ∀ {d : D} {v : V} {a f : Cnt} {x : PyData}, pd d = some x → Rep K mg H ρ d v a f → Dp K H v x
  | .non, _, _, _, _, e, h => by cases h; cases e; exact .non
  | .bl _, _, _, _, _, e, h => by cases h; cases e; exact .bl _
  | .int _, _, _, _, _, e, h => by cases h; cases e; exact .int _
  | .str _, _, _, _, _, e, h => by cases h; cases e; exact .str _
  | .tup xs, _, _, _, _, e, h => by
    cases h with
    | tup q t =>
      rw [pd, Option.map_eq_some_iff] at e
      obtain ⟨ys, e1, rfl⟩ := e
      exact .tup (SqT.of q) (Reps.dp e1 t)
  | .lst _ xs, _, _, _, _, e, h => by
    rw [pd, Option.map_eq_some_iff] at e
    obtain ⟨ys, e1, rfl⟩ := e
    obtain ⟨p, vs, a1, f1, rfl, hp, t, _⟩ := inv_lst h
    exact .lst (SqL.of hp) (Reps.dp e1 t)
  | .ro ns, _, _, _, _, e, h => by
    cases h with
    | ro q _ _ =>
      cases e
      exact .lst q.L (ints_dp ns)
  | .dic _ _ _ _, _, _, _, _, e, _ => by cases e
  | .box _, _, _, _, _, e, _ => by cases e
  | .fn _, _, _, _, _, e, _ => by cases e
  | .ty _, _, _, _, _, e, _ => by cases e
  | .exc _ _, _, _, _, _, e, _ => by cases e
theorem Reps.dp : ∀ {ds : List D} {vs : List V} {a f : Cnt} {xs : List PyData}, pds ds = some xs → Reps K mg H ρ ds vs a f → DpAll K H vs xs
  | [], _, _, _, _, e, h => by cases h; cases e; exact .nil
  | d :: ds, _, _, _, _, e, h => by
    cases h with
    | cons h t _ _ =>
      rw [pds] at e
      cases e1 : pd d with
      | none => rw [e1] at e; cases e
      | some y =>
        cases e2 : pds ds with
        | none => rw [e1, e2] at e; cases e
        | some ys =>
          rw [e1, e2] at e
          cases e
          exact .cons (Rep.dp e1 h) (Reps.dp e2 t)
theorem ints_dp : ∀ ns : List Int, DpAll K H (ns.map V.int) (ns.map PyData.int)
  | [] => .nil
  | n :: ns => .cons (.int n) (ints_dp ns)
end
theorem Reps.ints : ∀ {ns : List Int} {vs : List V} {a f : Cnt}, Reps K mg H ρ (ns.map D.int) vs a f → vs = ns.map V.int
  | [], _, _, _, h => by cases h; rfl
  | n :: ns, _, _, _, h => by
    cases h with
    | cons h t _ _ => rw [inv_int h, Reps.ints t]; rfl
end
/-- ints of a list of trees -/
def toInts : List D → Option (List Int)
  | [] => some []
  | .int i :: ds => (toInts ds).map (i :: ·)
  | _ => none
theorem toInts_eq : ∀ {ds : List D} {ns : List Int}, toInts ds = some ns → ds = ns.map D.int
  | [], ns, h => by cases h; rfl
  | .int i :: ds, ns, h => by
    rw [toInts, Option.map_eq_some_iff] at h
    obtain ⟨r, e, rfl⟩ := h
    rw [toInts_eq e]; rfl
  | .non :: _, _, h => by simp [toInts] at h
  | .bl _ :: _, _, h => by simp [toInts] at h
  | .str _ :: _, _, h => by simp [toInts] at h
  | .tup _ :: _, _, h => by simp [toInts] at h
  | .lst _ _ :: _, _, h => by simp [toInts] at h
  | .dic _ _ _ _ :: _, _, h => by simp [toInts] at h
  | .box _ :: _, _, h => by simp [toInts] at h
  | .fn _ :: _, _, h => by simp [toInts] at h
  | .ty _ :: _, _, h => by simp [toInts] at h
  | .exc _ _ :: _, _, h => by simp [toInts] at h
  | .ro _ :: _, _, h => by simp [toInts] at h
@[simp] theorem toInts_map (ns : List Int) : toInts (ns.map D.int) = some ns := by
  induction ns with
  | nil => rfl
  | cons n ns ih => simp [toInts, ih]
/-- the list of ints that a value holds -/
def intsIn (s : Sto) : D → Option (List Int)
  | .lst _ ds => toInts ds
  | .ro ns => some ns
  | .box n => (s[n]?).bind toInts
  | _ => none
section
variable {K : PySem.W.Frag} {mg : Str → Option Value} {H : Hp} {ρ : List Addr} {s : Sto}
theorem inv_ints {d : D} {ns : List Int} {v : V} {a f : Cnt} (w : Wd K mg ρ s H) (e : intsIn s d = some ns) (h : Rep K mg H ρ d v a f) : ∃ p, v = .ref p ∧ SqL K H p (ns.map V.int) := by
  cases d <;> simp only [intsIn, reduceCtorEq, Option.some.injEq] at e
  · obtain ⟨p, vs, a1, f1, rfl, hp, t, _⟩ := inv_lst h
    have := toInts_eq e
    subst this
    rw [t.ints] at hp
    exact ⟨p, rfl, SqL.of hp⟩
  · cases h with
    | box hn _ _ =>
      rename_i n p
      rw [Option.bind_eq_some_iff] at e
      obtain ⟨xs, e1, e2⟩ := e
      obtain ⟨_, vs, a1, f1, hp, t⟩ := w.at_ _ _ _ hn e1
      have := toInts_eq e2
      subst this
      rw [t.ints] at hp
      exact ⟨_, rfl, SqL.of hp⟩
  · subst e
    cases h with
    | ro q _ _ => exact ⟨_, rfl, q.L⟩
end
/-! ### numbers -/
def sm (i : Int) : Bool := decide (i.natAbs < 2 ^ 1900)
theorem sm_log {i : Int} (h : sm i = true) : i.natAbs.log2 < 1900 := PySem.Flt.log2_lt_of (by omega) (of_decide_eq_true h)
@[simp] def gAdd : Sto → List D → Option D := fun _ ds => match ds with
  | [.int i, .int j] => some (.int (i + j))
  | [.str x, .str y] => if x.length + y.length ≤ sizeLine then some (.str (x ++ y)) else none
  | [.lst _ xs, .lst _ ys] => if xs.length + ys.length ≤ sizeLine then some (.lst true (xs ++ ys)) else none
  | [.tup xs, .tup ys] => if xs.length + ys.length ≤ sizeLine then some (.tup (xs ++ ys)) else none
  | _ => none
@[simp] def gSub : Sto → List D → Option D := fun _ ds => match ds with
  | [.int i, .int j] => some (.int (i - j))
  | _ => none
def gMul : Sto → List D → Option D := fun _ ds => match ds with
  | [.int i, .int j] => if sm i = true ∧ sm j = true then some (.int (i * j)) else none
  | [.lst _ [x], .int k] => if plain x = true ∧ 0 ≤ k ∧ k ≤ 1000 then some (.lst true (List.replicate k.toNat x)) else none
  | [.tup xs, .int k] => if plains xs = true ∧ xs ≠ [] ∧ 2 ≤ k ∧ k ≤ 1000 ∧ xs.length ≤ 1000 then some (.tup (List.replicate k.toNat xs).flatten) else none
  | _ => none
def gDiv : Sto → List D → Option D := fun _ ds => match ds with
  | [.int i, .int j] => if 0 < j ∧ sm j = true then some (.int (i / j)) else none
  | _ => none
@[simp] def gMod : Sto → List D → Option D := fun _ ds => match ds with
  | [.int i, .int j] => if 0 < j then some (.int (i % j)) else none
  | _ => none
def gPow : Sto → List D → Option D := fun _ ds => match ds with
  | [.int i, .int j] => if 0 ≤ j ∧ j ≤ 1000 ∧ sm i = true then some (.int (i ^ j.toNat)) else none
  | _ => none
@[simp] def gNeg : Sto → List D → Option D := fun _ ds => match ds with
  | [.int i] => some (.int (-i))
  | _ => none
section
variable {K : PySem.W.Frag} {mg : Str → Option Value} {X : Cx}
theorem fin_int {H : Hp} {ρ : List Addr} {Q : VK} {a f : Cnt} {k : Int} (q : ∀ v H' a' f', Same H H' → Rep K mg H' ρ (.int k) v a' f' → Out a f H a' f' → Q v H') : Q (.int k) H := q _ H c0 c0 (fun _ _ h => h) (.int (fun _ => rfl) (fun _ => rfl)) (.zero (fun _ => rfl) (fun _ => rfl))
theorem fin_bl {H : Hp} {ρ : List Addr} {Q : VK} {a f : Cnt} {k : Bool} (q : ∀ v H' a' f', Same H H' → Rep K mg H' ρ (.bl k) v a' f' → Out a f H a' f' → Q v H') : Q (.bl k) H := q _ H c0 c0 (fun _ _ h => h) (.bl (fun _ => rfl) (fun _ => rfl)) (.zero (fun _ => rfl) (fun _ => rfl))
theorem fin_str {H : Hp} {ρ : List Addr} {Q : VK} {a f : Cnt} {k : Str} (q : ∀ v H' a' f', Same H H' → Rep K mg H' ρ (.str k) v a' f' → Out a f H a' f' → Q v H') : Q (.str k) H := q _ H c0 c0 (fun _ _ h => h) (.str (fun _ => rfl) (fun _ => rfl)) (.zero (fun _ => rfl) (fun _ => rfl))
def rAddZ (K : PySem.W.Frag) : R2 := fun x y H Q => ((rI0 fun i j => .int (i + j)) x y H Q ∨ (∃ i j, x = .str i ∧ y = .str j ∧ i.length + j.length ≤ sizeLine ∧ Q (.str (i ++ j)) H)) ∨ (rCat x y H Q ∨ rCatA K x y H Q)
theorem o_add : OpR X (binaryOp .Add) (rAddZ X.K) := (op_add.or op_add_str).or (op_cat.or op_catA)
theorem v_add : OpV K mg (r2 (rAddZ K)) gAdd := by
  intro ρ s H ds vs a f d w r h e Q q
  unfold Zm.gAdd at e
  split at e
  · cases e
    obtain ⟨v1, v2, _, _, _, _, rfl, r1, r2, _⟩ := r.inv2
    cases inv_int r1; cases inv_int r2
    exact ⟨_, _, rfl, .inl (.inl ⟨_, _, rfl, rfl, fin_int q⟩)⟩
  · split at e
    · rename_i z
      cases e
      obtain ⟨v1, v2, _, _, _, _, rfl, r1, r2, _⟩ := r.inv2
      cases inv_str r1; cases inv_str r2
      exact ⟨_, _, rfl, .inl (.inr ⟨_, _, rfl, rfl, z, fin_str q⟩)⟩
    · cases e
  · split at e
    · rename_i z
      cases e
      obtain ⟨v1, v2, a1, f1, a2, f2, rfl, r1, r2, eq⟩ := r.inv2
      obtain ⟨p1, vs1, b1, g1, rfl, h1, t1, l1⟩ := inv_lst r1
      obtain ⟨p2, vs2, b2, g2, rfl, h2, t2, l2⟩ := inv_lst r2
      refine ⟨_, _, rfl, .inr (.inl ⟨p1, p2, vs1, vs2, rfl, rfl, h1, h2, by rw [← t1.length, ← t2.length]; exact z, fun p hp => ?_⟩)⟩
      have le : ∀ x, (fun x => b1 x + b2 x) x ≤ a x ∧ (fun x => g1 x + g2 x) x ≤ f x := fun x => by have := eq x; have := l1 x; have := l2 x; dsimp only; omega
      obtain ⟨n1, n2⟩ := new_lst w hp (t1.append t2) (h.le le)
      exact q _ _ _ _ (same_upd hp) n1 (n2.le le)
    · cases e
  · split at e
    · rename_i z
      cases e
      obtain ⟨v1, v2, a1, f1, a2, f2, rfl, r1, r2, eq⟩ := r.inv2
      obtain ⟨p1, vs1, rfl, h1, t1⟩ := inv_tup r1
      obtain ⟨p2, vs2, rfl, h2, t2⟩ := inv_tup r2
      have le : ∀ x, (fun x => a1 x + a2 x) x ≤ a x ∧ (fun x => f1 x + f2 x) x ≤ f x := fun x => by have := eq x; dsimp only; omega
      have t12 := t1.append t2
      refine ⟨_, _, rfl, .inr (.inr ⟨p1, p2, vs1, vs2, rfl, rfl, SqT.of h1, SqT.of h2, by rw [← t1.length, ← t2.length]; exact z, fun e1 => ?_, fun e1 e2 => ?_, fun e1 e2 p hp => ?_⟩)⟩
      · subst e1
        rw [List.nil_append] at t12
        exact q _ H _ _ (fun _ _ h => h) (.tup h2 t12) ((Out.refl (h.le le)).le le)
      · subst e2
        rw [List.append_nil] at t12
        exact q _ H _ _ (fun _ _ h => h) (.tup h1 t12) ((Out.refl (h.le le)).le le)
      · exact q _ _ _ _ (same_upd hp) (new_tup hp t12) ((Out.refl (h.le le)).le le)
    · cases e
  · cases e
theorem v_sub : OpV K mg (r2 (rI0 fun i j => .int (i - j))) gSub := by
  intro ρ s H ds vs a f d w r h e Q q
  unfold Zm.gSub at e
  split at e
  · cases e
    obtain ⟨v1, v2, _, _, _, _, rfl, r1, r2, _⟩ := r.inv2
    cases inv_int r1; cases inv_int r2
    exact ⟨_, _, rfl, _, _, rfl, rfl, fin_int q⟩
  · cases e
def rMulZ (K : PySem.W.Frag) : R2 := fun x y H Q => ((L2.rI CMulW fun i j => .int (i * j)) x y H Q ∨ rRep x y H Q) ∨ rRepT K x y H Q
theorem o_mul : OpR X (binaryOp .Mult) (rMulZ X.K) := (op_mulW.or op_rep).or op_repT
theorem reps_rep {H : Hp} {ρ : List Addr} {xs : List D} {vs : List V} (t : Reps K mg H ρ xs vs c0 c0) : ∀ n : Nat, Reps K mg H ρ (List.replicate n xs).flatten (List.replicate n vs).flatten c0 c0
  | 0 => .nil (fun _ => rfl) (fun _ => rfl)
  | n + 1 => by
    rw [List.replicate_succ, List.flatten_cons, List.replicate_succ, List.flatten_cons]
    exact (t.append (reps_rep t n)).cong (fun _ => rfl) (fun _ => rfl)
theorem flat_one {α : Type} (x : α) : ∀ n : Nat, (List.replicate n [x]).flatten = List.replicate n x
  | 0 => rfl
  | n + 1 => by rw [List.replicate_succ, List.flatten_cons, flat_one x n]; rfl
theorem v_mul : OpV K mg (r2 (rMulZ K)) gMul := by
  intro ρ s H ds vs a f d w r h e Q q
  unfold Zm.gMul at e
  split at e
  · split at e
    · rename_i z
      cases e
      obtain ⟨v1, v2, _, _, _, _, rfl, r1, r2, _⟩ := r.inv2
      cases inv_int r1; cases inv_int r2
      exact ⟨_, _, rfl, .inl (.inl ⟨_, _, rfl, rfl, by have := sm_log z.1; have := sm_log z.2; unfold CMulW; omega, fin_int q⟩)⟩
    · cases e
  · split at e
    · rename_i o x k z
      cases e
      obtain ⟨v1, v2, a1, f1, a2, f2, rfl, r1, r2, eq⟩ := r.inv2
      cases inv_int r2
      obtain ⟨p1, vs1, b1, g1, rfl, h1, t1, l1⟩ := inv_lst r1
      obtain ⟨vx, rfl, rx⟩ := t1.inv1
      have zz := rx.plain z.1
      have t0 : Reps K mg H ρ [x] [vx] c0 c0 := t1.cong (fun p => (zz p).1.symm) (fun p => (zz p).2.symm)
      have tn := reps_rep t0 k.toNat
      rw [flat_one, flat_one] at tn
      refine ⟨_, _, rfl, .inl (.inr ⟨p1, k, [vx], rfl, rfl, h1, by omega, by omega, ?_, fun p hp => ?_⟩)⟩
      · show 1 * k.toNat ≤ sizeLine
        have : (1000 : Nat) ≤ sizeLine := by decide
        omega
      · rw [flat_one]
        obtain ⟨n1, n2⟩ := new_lst w hp tn (fun x => ⟨Nat.zero_le _, fun z => no0 z⟩)
        exact q _ _ _ _ (same_upd hp) n1 (n2.le fun x => ⟨Nat.zero_le _, Nat.zero_le _⟩)
    · cases e
  · split at e
    · rename_i xs k z
      cases e
      obtain ⟨v1, v2, a1, f1, a2, f2, rfl, r1, r2, eq⟩ := r.inv2
      cases inv_int r2
      obtain ⟨p1, vs1, rfl, h1, t1⟩ := inv_tup r1
      have zz := t1.plain z.1
      have t0 : Reps K mg H ρ xs vs1 c0 c0 := t1.cong (fun p => (zz p).1.symm) (fun p => (zz p).2.symm)
      refine ⟨_, _, rfl, .inr ⟨p1, k, vs1, rfl, rfl, SqT.of h1, ?_, z.2.2.1, z.2.2.2.1, by rw [← t1.length]; exact z.2.2.2.2, fun p hp => ?_⟩⟩
      · intro e
        subst e
        have := t1.length
        exact z.2.1 (List.eq_nil_of_length_eq_zero this)
      · exact q _ _ _ _ (same_upd hp) (new_tup hp (reps_rep t0 k.toNat)) (.zero (fun _ => rfl) (fun _ => rfl))
    · cases e
  · cases e
theorem v_div : OpV K mg (r2 (L2.rI CDivW fun i j => .int (i / j))) gDiv := by
  intro ρ s H ds vs a f d w r h e Q q
  unfold Zm.gDiv at e
  split at e
  · split at e
    · rename_i z
      cases e
      obtain ⟨v1, v2, _, _, _, _, rfl, r1, r2, _⟩ := r.inv2
      cases inv_int r1; cases inv_int r2
      exact ⟨_, _, rfl, _, _, rfl, rfl, ⟨z.1, by have := sm_log z.2; omega⟩, fin_int q⟩
    · cases e
  · cases e
theorem v_mod : OpV K mg (r2 (L2.rI (fun _ j => 0 < j) fun i j => .int (i % j))) gMod := by
  intro ρ s H ds vs a f d w r h e Q q
  unfold Zm.gMod at e
  split at e
  · split at e
    · rename_i z
      cases e
      obtain ⟨v1, v2, _, _, _, _, rfl, r1, r2, _⟩ := r.inv2
      cases inv_int r1; cases inv_int r2
      exact ⟨_, _, rfl, _, _, rfl, rfl, z, fin_int q⟩
    · cases e
  · cases e
def CPowZ (i j : Int) : Prop := 0 ≤ j ∧ j ≤ 1000 ∧ sm i = true
theorem o_pow : OpR X (binaryOp .Pow) (L2.rI CPowZ fun i j => .int (i ^ j.toNat)) := opI fun i j _ _ _ _ _ hc q => by
  obtain ⟨h1, h2, h3⟩ := hc
  refine pow_int h1 ?_ q
  have b : Builtin.Int.intBits i ≤ 1900 := by
    have := sm_log h3
    unfold Builtin.Int.intBits
    split <;> omega
  have h4 : (Builtin.Int.intBits i : Int) ≤ 1900 := by omega
  have h5 : (Builtin.Int.intBits i : Int) * j ≤ 1900 * 1000 := Int.le_trans (Int.mul_le_mul_of_nonneg_right h4 h1) (Int.mul_le_mul_of_nonneg_left h2 (by omega))
  omega
theorem v_pow : OpV K mg (r2 (L2.rI CPowZ fun i j => .int (i ^ j.toNat))) gPow := by
  intro ρ s H ds vs a f d w r h e Q q
  unfold Zm.gPow at e
  split at e
  · split at e
    · rename_i z
      cases e
      obtain ⟨v1, v2, _, _, _, _, rfl, r1, r2, _⟩ := r.inv2
      cases inv_int r1; cases inv_int r2
      exact ⟨_, _, rfl, _, _, rfl, rfl, z, fin_int q⟩
    · cases e
  · cases e
theorem v_neg : OpV K mg (r1 (rU fun i => .int (-i))) gNeg := by
  intro ρ s H ds vs a f d w r h e Q q
  unfold Zm.gNeg at e
  split at e
  · cases e
    obtain ⟨v1, rfl, r1⟩ := r.inv1
    cases inv_int r1
    exact ⟨_, rfl, _, rfl, fin_int q⟩
  · cases e
/-! ### comparisons -/
@[simp] def gCmpI (p : Int → Int → Bool) : Sto → List D → Option D := fun _ ds => match ds with
  | [.int i, .int j] => some (.bl (p i j))
  | _ => none
@[simp] def gLt := gCmpI fun i j => decide (i < j)
@[simp] def gLe := gCmpI fun i j => decide (i ≤ j)
@[simp] def gGt := gCmpI fun i j => decide (j < i)
@[simp] def gGe := gCmpI fun i j => decide (j ≤ i)
theorem v_cmpI {p : Int → Int → Bool} : OpV K mg (r2 (rI0 fun i j => .bl (p i j))) (gCmpI p) := by
  intro ρ s H ds vs a f d w r h e Q q
  unfold Zm.gCmpI at e
  split at e
  · cases e
    obtain ⟨v1, v2, _, _, _, _, rfl, r1, r2, _⟩ := r.inv2
    cases inv_int r1; cases inv_int r2
    exact ⟨_, _, rfl, _, _, rfl, rfl, fin_bl q⟩
  · cases e
def shapedD (d : D) : Option PyData := match pd d with
  | some x => if SeqAt.shaped x = true then some x else none
  | none => none
theorem shapedD_eq {d : D} {x : PyData} (h : shapedD d = some x) : pd d = some x ∧ SeqAt.shaped x = true := by
  unfold shapedD at h
  split at h
  · rename_i y e
    split at h
    · rename_i z; cases h; exact ⟨e, z⟩
    · cases h
  · cases h
def gEq : Sto → List D → Option D := fun _ ds => match ds with
  | [x, y] => (match shapedD x, shapedD y with
    | some a, some b => some (.bl (PyData.eqv a b))
    | _, _ => none)
  | _ => none
def gNe : Sto → List D → Option D := fun _ ds => match ds with
  | [x, y] => (match shapedD x, shapedD y with
    | some a, some b => some (.bl (!PyData.eqv a b))
    | _, _ => none)
  | _ => none
theorem v_eq : OpV K mg (r2 (rEqD K)) gEq := by
  intro ρ s H ds vs a f d w r h e Q q
  unfold Zm.gEq at e
  split at e
  · split at e
    · rename_i x y e1 e2
      cases e
      obtain ⟨v1, v2, _, _, _, _, rfl, r1, r2, _⟩ := r.inv2
      obtain ⟨p1, s1⟩ := shapedD_eq e1
      obtain ⟨p2, s2⟩ := shapedD_eq e2
      exact ⟨_, _, rfl, _, _, r1.dp p1, r2.dp p2, s1, s2, fin_bl q⟩
    · cases e
  · cases e
theorem v_ne : OpV K mg (r2 (rNeD K)) gNe := by
  intro ρ s H ds vs a f d w r h e Q q
  unfold Zm.gNe at e
  split at e
  · split at e
    · rename_i x y e1 e2
      cases e
      obtain ⟨v1, v2, _, _, _, _, rfl, r1, r2, _⟩ := r.inv2
      obtain ⟨p1, s1⟩ := shapedD_eq e1
      obtain ⟨p2, s2⟩ := shapedD_eq e2
      exact ⟨_, _, rfl, _, _, r1.dp p1, r2.dp p2, s1, s2, fin_bl q⟩
    · cases e
  · cases e
@[simp] def isNon : D → Bool
  | .non => true
  | _ => false
@[simp] def gIsN : Sto → List D → Option D := fun _ ds => match ds with
  | [x, .non] => some (.bl (isNon x))
  | _ => none
@[simp] def gNotN : Sto → List D → Option D := fun _ ds => match ds with
  | [x, .non] => some (.bl (!isNon x))
  | _ => none
end
end Zm
set_option Elab.async false
set_option linter.all false
set_option maxRecDepth 100000
set_option autoImplicit false
/-! Z11: subscripts, slices, built-ins by machine. -/
namespace Zm
open PySem PySem.Spec PyProof.Rows L2
theorem Reps.drop {K : PySem.W.Frag} {mg : Str → Option Value} {H : Hp} {ρ : List Addr} : ∀ {ds : List D} {vs : List V} {a f : Cnt} (n : Nat), Reps K mg H ρ ds vs a f → ∃ a' f', Reps K mg H ρ (ds.drop n) (vs.drop n) a' f' ∧ ∀ x, a' x ≤ a x ∧ f' x ≤ f x
  | _, _, a, f, 0, h => ⟨a, f, by simpa using h, fun _ => ⟨Nat.le_refl _, Nat.le_refl _⟩⟩
  | _, _, a, f, n + 1, .nil h1 h2 => ⟨a, f, by simpa using Reps.nil h1 h2, fun _ => ⟨Nat.le_refl _, Nat.le_refl _⟩⟩
  | _, _, a, f, n + 1, .cons h t e1 e2 => by
    obtain ⟨a', f', r, q⟩ := Reps.drop n t
    exact ⟨a', f', by simpa using r, fun x => by have := q x; rw [e1, e2]; omega⟩
theorem Reps.take {K : PySem.W.Frag} {mg : Str → Option Value} {H : Hp} {ρ : List Addr} : ∀ {ds : List D} {vs : List V} {a f : Cnt} (n : Nat), Reps K mg H ρ ds vs a f → ∃ a' f', Reps K mg H ρ (ds.take n) (vs.take n) a' f' ∧ ∀ x, a' x ≤ a x ∧ f' x ≤ f x
  | _, _, a, f, 0, h => ⟨c0, c0, by rw [List.take_zero, List.take_zero]; exact Reps.nil (fun _ => rfl) (fun _ => rfl), fun _ => ⟨Nat.zero_le _, Nat.zero_le _⟩⟩
  | _, _, a, f, n + 1, .nil h1 h2 => ⟨a, f, by simpa using Reps.nil h1 h2, fun _ => ⟨Nat.le_refl _, Nat.le_refl _⟩⟩
  | _, _, a, f, n + 1, .cons h t e1 e2 => by
    obtain ⟨a', f', r, q⟩ := Reps.take n t
    refine ⟨_, _, by simpa using Reps.cons h r (fun _ => rfl) (fun _ => rfl), fun x => ?_⟩
    have := q x
    rw [e1, e2]
    omega
theorem Reps.atI {K : PySem.W.Frag} {mg : Str → Option Value} {H : Hp} {ρ : List Addr} {ds : List D} {vs : List V} {a f : Cnt} {i : Int} {d : D} (h : Reps K mg H ρ ds vs a f) (e : L2.atI ds i = some d) : ∃ v a' f', L2.atI vs i = some v ∧ Rep K mg H ρ d v a' f' ∧ ∀ x, a' x ≤ a x ∧ f' x ≤ f x := by
  unfold L2.atI at e ⊢
  rw [Option.bind_eq_some_iff] at e
  obtain ⟨j, e1, e2⟩ := e
  obtain ⟨v, a', f', q1, q2, q3⟩ := h.at e2
  exact ⟨v, a', f', by rw [← h.length, e1]; exact q1, q2, q3⟩
def gIx : Sto → List D → Option D := fun s ds => match ds with
  | [.lst _ xs, .int i] => L2.atI xs i
  | [.tup xs, .int i] => L2.atI xs i
  | [.ro ns, .int i] => (L2.atI ns i).map .int
  | [.box n, .int i] => (s[n]?).bind fun xs => L2.atI xs i
  | [.str z, .int i] => if z.length ≤ sizeLine then (L2.atI z.cps.toList i).map fun c => .str ⟨#[c]⟩ else none
  | _ => none
theorem atI_map {α β : Type} (g : α → β) (xs : List α) (i : Int) : L2.atI (xs.map g) i = (L2.atI xs i).map g := by
  unfold L2.atI
  rw [List.length_map]
  cases L2.ixN xs.length i with
  | none => rfl
  | some j => simp
def cutD {α : Type} (xs : List α) (lo hi : Option Int) : List α := (xs.drop (HT.sIx xs.length 0 lo)).take (HT.sIx xs.length xs.length hi - HT.sIx xs.length 0 lo)
def gSlW (d : D) (lo hi : Option Int) : Option D := match d with
  | .lst _ xs => some (.lst true (cutD xs lo hi))
  | .tup xs => some (.tup (cutD xs lo hi))
  | .ro ns => some (.lst true ((cutD ns lo hi).map .int))
  | .str z => if z.length ≤ sizeLine then some (.str (cutS z lo hi)) else none
  | _ => none
def gSl10 : Sto → List D → Option D := fun _ ds => match ds with
  | [d, .int i] => gSlW d (some i) none
  | _ => none
def gSl01 : Sto → List D → Option D := fun _ ds => match ds with
  | [d, .int j] => gSlW d none (some j)
  | _ => none
def rSlZ (K : PySem.W.Frag) : V → Option Int → Option Int → Hp → VK → Prop := fun x lo hi H Q => rSlL K x lo hi H Q ∨ rSlA K x lo hi H Q ∨ rSlS x lo hi H Q
theorem sl_any {X : Cx} : SlR X (rSlZ X.K) := by
  intro pins s σ H x v vl vu lo hi sl Q I rx hs pl pu h
  rcases h with h | h | h
  · exact sl_list pins s σ H x v vl vu lo hi sl Q I rx hs pl pu h
  · exact sl_tupA pins s σ H x v vl vu lo hi sl Q I rx hs pl pu h
  · exact sl_str pins s σ H x v vl vu lo hi sl Q I rx hs pl pu h
section
variable {K : PySem.W.Frag} {mg : Str → Option Value}
theorem v_ix : OpV K mg (r2 (rIx K)) gIx := by
  intro ρ s H ds vs a f d w r h e Q q
  unfold Zm.gIx at e
  split at e
  · obtain ⟨v1, v2, a1, f1, a2, f2, rfl, r1, r2, eq⟩ := r.inv2
    cases inv_int r2
    obtain ⟨p1, vs1, b1, g1, rfl, h1, t1, l1⟩ := inv_lst r1
    obtain ⟨v, a', f', e1, rp, le⟩ := t1.atI e
    have le' : ∀ x, a' x ≤ a x ∧ f' x ≤ f x := fun x => by have := eq x; have := l1 x; have := le x; omega
    exact ⟨_, _, rfl, .inl ⟨p1, _, _, v, rfl, rfl, SqL.of h1, e1, q _ H _ _ (fun _ _ h => h) rp ((Out.refl (h.le le')).le le')⟩⟩
  · obtain ⟨v1, v2, a1, f1, a2, f2, rfl, r1, r2, eq⟩ := r.inv2
    cases inv_int r2
    obtain ⟨p1, vs1, rfl, h1, t1⟩ := inv_tup r1
    obtain ⟨v, a', f', e1, rp, le⟩ := t1.atI e
    have le' : ∀ x, a' x ≤ a x ∧ f' x ≤ f x := fun x => by have := eq x; have := le x; omega
    exact ⟨_, _, rfl, .inr (.inl ⟨p1, _, _, v, rfl, rfl, SqT.of h1, e1, q _ H _ _ (fun _ _ h => h) rp ((Out.refl (h.le le')).le le')⟩)⟩
  · obtain ⟨v1, v2, a1, f1, a2, f2, rfl, r1, r2, eq⟩ := r.inv2
    cases inv_int r2
    cases r1 with
    | ro hq _ _ =>
      rw [Option.map_eq_some_iff] at e
      obtain ⟨n, e1, rfl⟩ := e
      exact ⟨_, _, rfl, .inl ⟨_, _, _, _, rfl, rfl, hq.L, by rw [atI_map, e1]; rfl, fin_int q⟩⟩
  · obtain ⟨v1, v2, a1, f1, a2, f2, rfl, r1, r2, eq⟩ := r.inv2
    cases inv_int r2
    cases r1 with
    | box hn _ _ =>
      rw [Option.bind_eq_some_iff] at e
      obtain ⟨xs, e1, e2⟩ := e
      obtain ⟨pl, vs1, b1, g1, hp, t1⟩ := w.at_ _ _ _ hn e1
      obtain ⟨v, a', f', e3, rp, le⟩ := t1.atI e2
      have z := t1.plain pl
      exact ⟨_, _, rfl, .inl ⟨_, _, _, v, rfl, rfl, SqL.of hp, e3, q _ H _ _ (fun _ _ h => h) rp (.zero (fun x => by have := z x; have := le x; omega) (fun x => by have := z x; have := le x; omega))⟩⟩
  · split at e
    · rename_i z
      obtain ⟨v1, v2, a1, f1, a2, f2, rfl, r1, r2, eq⟩ := r.inv2
      cases inv_int r2; cases inv_str r1
      rw [Option.map_eq_some_iff] at e
      obtain ⟨c, e1, rfl⟩ := e
      exact ⟨_, _, rfl, .inr (.inr ⟨_, _, c, rfl, rfl, z, e1, fin_str q⟩)⟩
    · cases e
  · cases e
theorem sl_core {ρ : List Addr} {s : Sto} {H : Hp} {d0 d : D} {v : V} {a f : Cnt} {lo hi : Option Int} (w : Wd K mg ρ s H) (r : Rep K mg H ρ d0 v a f) (h : Sp1 a f) (e : gSlW d0 lo hi = some d) (Q : VK) (q : ∀ v H' a' f', Same H H' → Rep K mg H' ρ d v a' f' → Out a f H a' f' → Q v H') : rSlZ K v lo hi H Q := by
  cases d0 <;> simp only [gSlW, reduceCtorEq, Option.some.injEq] at e
  · split at e
    · rename_i z
      cases e
      cases inv_str r
      exact .inr (.inr ⟨_, rfl, z, fin_str q⟩)
    · cases e
  · subst e
    obtain ⟨p1, vs1, rfl, h1, t1⟩ := inv_tup r
    refine .inr (.inl ⟨p1, vs1, rfl, SqT.of h1, fun c => ?_, fun c p hp => ?_⟩)
    · have hx : ∀ {α : Type} (xs : List α), xs.length = vs1.length → cutD xs lo hi = xs := fun xs hl => by
        unfold cutD
        rw [hl, c.1, c.2]
        simp [← hl]
      rw [hx _ t1.length] at q
      exact q _ H _ _ (fun _ _ h => h) (.tup h1 t1) (.refl h)
    · unfold cutD at q
      obtain ⟨a1, f1, t2, le1⟩ := t1.drop (HT.sIx vs1.length 0 lo)
      obtain ⟨a2, f2, t3, le2⟩ := t2.take (HT.sIx vs1.length vs1.length hi - HT.sIx vs1.length 0 lo)
      rw [t1.length] at q
      have le : ∀ x, a2 x ≤ a x ∧ f2 x ≤ f x := fun x => by have := le1 x; have := le2 x; omega
      exact q _ _ _ _ (same_upd hp) (new_tup hp t3) ((Out.refl (h.le le)).le le)
  · subst e
    obtain ⟨p1, vs1, b1, g1, rfl, h1, t1, l1⟩ := inv_lst r
    refine .inl ⟨p1, vs1, rfl, SqL.of h1, fun p hp => ?_⟩
    unfold cutD at q
    obtain ⟨a1, f1, t2, le1⟩ := t1.drop (HT.sIx vs1.length 0 lo)
    obtain ⟨a2, f2, t3, le2⟩ := t2.take (HT.sIx vs1.length vs1.length hi - HT.sIx vs1.length 0 lo)
    rw [t1.length] at q
    have le : ∀ x, a2 x ≤ a x ∧ f2 x ≤ f x := fun x => by have := le1 x; have := le2 x; have := l1 x; omega
    obtain ⟨n1, n2⟩ := new_lst w hp t3 (h.le le)
    exact q _ _ _ _ (same_upd hp) n1 (n2.le le)
  · subst e
    cases r with
    | ro hq _ _ =>
      refine .inl ⟨_, _, rfl, hq.L, fun p hp => ?_⟩
      have e2 : ∀ ns : List Int, cutV (ns.map V.int) lo hi = (cutD ns lo hi).map V.int := fun ns => by
        unfold cutV cutD
        rw [List.length_map, List.map_take, List.map_drop]
      rw [e2]
      obtain ⟨n1, n2⟩ := new_lst w hp (reps_ints _) (fun x => ⟨Nat.zero_le _, fun z => no0 z⟩)
      exact q _ _ _ _ (same_upd hp) n1 (n2.le fun x => ⟨Nat.zero_le _, Nat.zero_le _⟩)
end
section
variable {X : Cx} {W : WX} {e : Expr} {m ma mb mc : M} {ms : List M} {pos p2 : Pos} {a b c : Expr}
theorem s_ix (ha : SE X W a ma) (hb : SE X W b mb) (hs : PlainIx b := by intro _ _; rfl) : SE X W (.Subscript a b pos) (mOp gIx [ma, mb]) :=
  PE.imp (pe_ix ix_seq ha hb hs) fun σ H Q h => rE_mono (rA_2 (rA_op v_ix h)) fun v H1 q => rE_mono q fun u H2 ⟨x, y, e, z⟩ => by cases e; exact z
theorem v_sl10 {K : PySem.W.Frag} {mg : Str → Option Value} : OpV K mg (fun vs H Q => ∃ x i, vs = [x, .int i] ∧ rSlZ K x (some i) none H Q) gSl10 := by
  intro ρ s H ds vs a f d w r h e Q q
  unfold Zm.gSl10 at e
  split at e
  · obtain ⟨v1, v2, a1, f1, a2, f2, rfl, r1, r2, eq⟩ := r.inv2
    cases inv_int r2
    have le : ∀ x, a1 x ≤ a x ∧ f1 x ≤ f x := fun x => by have := eq x; omega
    exact ⟨_, _, rfl, sl_core w r1 (h.le le) e Q fun v H' a' f' s1 r1 o => q v H' a' f' s1 r1 (o.le le)⟩
  · cases e
theorem v_sl01 {K : PySem.W.Frag} {mg : Str → Option Value} : OpV K mg (fun vs H Q => ∃ x i, vs = [x, .int i] ∧ rSlZ K x none (some i) H Q) gSl01 := by
  intro ρ s H ds vs a f d w r h e Q q
  unfold Zm.gSl01 at e
  split at e
  · obtain ⟨v1, v2, a1, f1, a2, f2, rfl, r1, r2, eq⟩ := r.inv2
    cases inv_int r2
    have le : ∀ x, a1 x ≤ a x ∧ f1 x ≤ f x := fun x => by have := eq x; omega
    exact ⟨_, _, rfl, sl_core w r1 (h.le le) e Q fun v H' a' f' s1 r1 o => q v H' a' f' s1 r1 (o.le le)⟩
  · cases e
theorem s_sl10 (ha : SE X W a ma) (hb : SE X W b mb) : SE X W (.Subscript a (.Slice (some b) none none p2) pos) (mOp gSl10 [ma, mb]) :=
  PE.imp (pe_slice sl_any ha (po_some hb) po_none) fun σ H Q h => rE_mono (rA_2 (rA_op v_sl10 h)) fun v H1 q => rE_mono q fun u H2 ⟨x, i, e, z⟩ => by cases e; exact ⟨_, rfl, z⟩
theorem s_sl01 (ha : SE X W a ma) (hb : SE X W b mb) : SE X W (.Subscript a (.Slice none (some b) none p2) pos) (mOp gSl01 [ma, mb]) :=
  PE.imp (pe_slice sl_any ha po_none (po_some hb)) fun σ H Q h => rE_mono (rA_2 (rA_op v_sl01 h)) fun v H1 q => rE_mono q fun u H2 ⟨x, i, e, z⟩ => by cases e; exact ⟨_, rfl, z⟩
@[simp] def mI (m : M) : M := fun σ s => (m σ s).bind fun d s' => match d with
  | .int i => .ok (.int i) s'
  | _ => .bad
end
/-! ### built-ins -/
@[simp] def gLen : Sto → List D → Option D := fun s ds => match ds with
  | [.lst _ xs] => some (.int (xs.length : Nat))
  | [.tup xs] => some (.int (xs.length : Nat))
  | [.ro ns] => some (.int (ns.length : Nat))
  | [.box n] => (s[n]?).map fun xs => .int (xs.length : Nat)
  | [.str z] => if z.length ≤ sizeLine then some (.int (z.length : Nat)) else none
  | _ => none
@[simp] def gAbs : Sto → List D → Option D := fun _ ds => match ds with
  | [.int i] => some (.int (if i < 0 then -i else i))
  | _ => none
@[simp] def gMax2 : Sto → List D → Option D := fun _ ds => match ds with
  | [.int i, .int j] => some (.int (if j > i then j else i))
  | _ => none
@[simp] def gMin2 : Sto → List D → Option D := fun _ ds => match ds with
  | [.int i, .int j] => some (.int (if j < i then j else i))
  | _ => none
def maxI (x : Int) (xs : List Int) : Int := xs.foldl (fun m y => if m < y then y else m) x
def gMaxL : Sto → List D → Option D := fun s ds => match ds with
  | [d] => (intsIn s d).bind fun ns => match ns with
    | x :: xs => some (.int (maxI x xs))
    | [] => none
  | _ => none
def gSum : Sto → List D → Option D := fun s ds => match ds with
  | [d] => (intsIn s d).map fun ns => .int ns.sum
  | _ => none
def toBls : List D → Option (List Bool)
  | [] => some []
  | .bl i :: ds => (toBls ds).map (i :: ·)
  | _ => none
@[simp] theorem toBls_map (ns : List Bool) : toBls (ns.map D.bl) = some ns := by
  induction ns with
  | nil => rfl
  | cons n ns ih => simp [toBls, ih]
def gAll : Sto → List D → Option D := fun _ ds => match ds with
  | [.lst _ xs] => (toBls xs).map fun bs => .bl (bs.all id)
  | _ => none
def gList : Sto → List D → Option D := fun s ds => match ds with
  | [.lst _ xs] => some (.lst true xs)
  | [.tup xs] => some (.lst true xs)
  | [.ro ns] => some (.lst true (ns.map .int))
  | [.box n] => (s[n]?).map fun xs => .lst true xs
  | _ => none
def gTuple : Sto → List D → Option D := fun s ds => match ds with
  | [.lst _ xs] => some (.tup xs)
  | [.tup xs] => some (.tup xs)
  | [.ro ns] => some (.tup (ns.map .int))
  | _ => none
@[simp] def tyOf : D → Option String
  | .non => some "NoneType" | .bl _ => some "bool" | .int _ => some "int" | .str _ => some "str" | .tup _ => some "tuple" | .lst _ _ => some "list" | .ro _ => some "list" | .box _ => some "list" | .dic _ false _ _ => some "dict"
  | _ => none
@[simp] def isiB (a b : String) : Bool := a == b || (a == "bool" && b == "int")
@[simp] def knownT (b : String) : Bool := ["int", "bool", "tuple", "list", "str", "dict"].contains b
theorem kit_known {a b : String} {d : D} (h : tyOf d = some a) (hb : knownT b = true) : kitB a b = some (isiB a b) := by
  have hb : b = "int" ∨ b = "bool" ∨ b = "tuple" ∨ b = "list" ∨ b = "str" ∨ b = "dict" := by simpa [knownT] using hb
  have ha : a = "NoneType" ∨ a = "bool" ∨ a = "int" ∨ a = "str" ∨ a = "tuple" ∨ a = "list" ∨ a = "dict" := by
    unfold tyOf at h
    split at h <;> first | cases h; simp | cases h
  rcases ha with rfl | rfl | rfl | rfl | rfl | rfl | rfl <;> rcases hb with rfl | rfl | rfl | rfl | rfl | rfl <;> decide +kernel
@[simp] def gIsi : Sto → List D → Option D := fun _ ds => match ds with
  | [x, .ty b] => (tyOf x).bind fun a => if knownT b = true then some (.bl (isiB a b)) else none
  | _ => none
@[simp] def gIsi2 : Sto → List D → Option D := fun _ ds => match ds with
  | [x, .tup [.ty b, .ty c]] => (tyOf x).bind fun a => if knownT b = true ∧ knownT c = true then some (.bl (isiB a b || isiB a c)) else none
  | _ => none
def gRepr : Sto → List D → Option D := fun _ ds => match ds with
  | [d] => (pd d).bind fun x => if x.showable = true ∧ x.hasDict = false ∧ x.depth ≤ 60 ∧ x.shown.length ≤ sizeLine then some (.str x.shown) else none
  | _ => none
def gStr : Sto → List D → Option D := fun _ ds => match ds with
  | [.int i] => if sm i = true then some (.str (toString i)) else none
  | _ => none
section
variable {K : PySem.W.Frag} {mg : Str → Option Value} {X : Cx}
theorem v_len : OpV K mg (fun xs H Q => ∃ x n, xs = [x] ∧ LenV K x H n ∧ Q (.int n) H) gLen := by
  intro ρ s H ds vs a f d w r h e Q q
  unfold Zm.gLen at e
  split at e
  · cases e
    obtain ⟨v1, rfl, r1⟩ := r.inv1
    obtain ⟨p1, vs1, b1, g1, rfl, h1, t1, l1⟩ := inv_lst r1
    exact ⟨_, _, rfl, .inl ⟨_, SqL.of h1, t1.length⟩, fin_int q⟩
  · cases e
    obtain ⟨v1, rfl, r1⟩ := r.inv1
    obtain ⟨p1, vs1, rfl, h1, t1⟩ := inv_tup r1
    exact ⟨_, _, rfl, .inr ⟨_, SqT.of h1, t1.length⟩, fin_int q⟩
  · cases e
    obtain ⟨v1, rfl, r1⟩ := r.inv1
    cases r1 with
    | ro hq _ _ => exact ⟨_, _, rfl, .inl ⟨_, hq.L, by rw [List.length_map]⟩, fin_int q⟩
  · rw [Option.map_eq_some_iff] at e
    obtain ⟨xs, e1, rfl⟩ := e
    obtain ⟨v1, rfl, r1⟩ := r.inv1
    cases r1 with
    | box hn _ _ =>
      obtain ⟨pl, vs1, b1, g1, hp, t1⟩ := w.at_ _ _ _ hn e1
      exact ⟨_, _, rfl, .inl ⟨_, SqL.of hp, t1.length⟩, fin_int q⟩
  · split at e
    · rename_i z
      cases e
      obtain ⟨v1, rfl, r1⟩ := r.inv1
      cases inv_str r1
      exact ⟨_, _, rfl, ⟨z, rfl⟩, fin_int q⟩
    · cases e
  · cases e
theorem v_max2 : OpV K mg (fun xs H Q => ∃ i j, xs = [.int i, .int j] ∧ Q (.int (if j > i then j else i)) H) gMax2 := by
  intro ρ s H ds vs a f d w r h e Q q
  unfold Zm.gMax2 at e
  split at e
  · cases e
    obtain ⟨v1, v2, _, _, _, _, rfl, r1, r2, _⟩ := r.inv2
    cases inv_int r1; cases inv_int r2
    exact ⟨_, _, rfl, fin_int q⟩
  · cases e
theorem v_min2 : OpV K mg (fun xs H Q => ∃ i j, xs = [.int i, .int j] ∧ Q (.int (if j < i then j else i)) H) gMin2 := by
  intro ρ s H ds vs a f d w r h e Q q
  unfold Zm.gMin2 at e
  split at e
  · cases e
    obtain ⟨v1, v2, _, _, _, _, rfl, r1, r2, _⟩ := r.inv2
    cases inv_int r1; cases inv_int r2
    exact ⟨_, _, rfl, fin_int q⟩
  · cases e
theorem maxI_spec : ∀ (xs : List Int) (x : Int), maxI x xs ∈ x :: xs ∧ ∀ y ∈ x :: xs, y ≤ maxI x xs
  | [], x => ⟨by simp [maxI], fun y hy => by simp at hy; subst hy; simp [maxI]⟩
  | z :: xs, x => by
    have ih := maxI_spec xs (if x < z then z else x)
    have e : maxI x (z :: xs) = maxI (if x < z then z else x) xs := rfl
    rw [e]
    constructor
    · rcases List.mem_cons.mp ih.1 with h | h
      · rw [h]; split <;> simp
      · exact List.mem_cons_of_mem _ (List.mem_cons_of_mem _ h)
    · intro y hy
      have h0 := ih.2 _ List.mem_cons_self
      by_cases c : x < z
      · rw [if_pos c] at h0 ih ⊢
        rcases List.mem_cons.mp hy with h | h
        · omega
        · rcases List.mem_cons.mp h with h | h
          · omega
          · exact ih.2 y (List.mem_cons_of_mem _ h)
      · rw [if_neg c] at h0 ih ⊢
        rcases List.mem_cons.mp hy with h | h
        · omega
        · rcases List.mem_cons.mp h with h | h
          · omega
          · exact ih.2 y (List.mem_cons_of_mem _ h)
theorem v_maxL : OpV K mg (rMax K) gMaxL := by
  intro ρ s H ds vs a f d w r h e Q q
  unfold Zm.gMaxL at e
  split at e
  · rw [Option.bind_eq_some_iff] at e
    obtain ⟨ns, e1, e2⟩ := e
    obtain ⟨v1, rfl, r1⟩ := r.inv1
    obtain ⟨p, rfl, hq⟩ := inv_ints w e1 r1
    cases ns with
    | nil => cases e2
    | cons x xs =>
      cases e2
      refine ⟨p, _, rfl, hq, by simp, fun m hm hle => ?_⟩
      have := maxI_spec xs x
      have e : m = maxI x xs := by
        have := hle _ this.1
        have := (maxI_spec xs x).2 m hm
        omega
      subst e
      exact fin_int q
  · cases e
theorem v_sum : OpV K mg (rSum K) gSum := by
  intro ρ s H ds vs a f d w r h e Q q
  unfold Zm.gSum at e
  split at e
  · rw [Option.map_eq_some_iff] at e
    obtain ⟨ns, e1, rfl⟩ := e
    obtain ⟨v1, rfl, r1⟩ := r.inv1
    obtain ⟨p, rfl, hq⟩ := inv_ints w e1 r1
    exact ⟨p, ns, rfl, hq, fin_int q⟩
  · cases e
theorem toBls_eq {K : PySem.W.Frag} {mg : Str → Option Value} {H : Hp} {ρ : List Addr} : ∀ {ds : List D} {bs : List Bool} {vs : List V} {a f : Cnt}, toBls ds = some bs → Reps K mg H ρ ds vs a f → vs = bs.map V.bl
  | [], _, _, _, _, h, r => by cases h; cases r; rfl
  | .bl b :: ds, _, _, _, _, h, .cons r t _ _ => by
    rw [toBls, Option.map_eq_some_iff] at h
    obtain ⟨r', e, rfl⟩ := h
    rw [inv_bl r, toBls_eq e t]; rfl
  | .non :: _, _, _, _, _, h, _ => by simp [toBls] at h
  | .int _ :: _, _, _, _, _, h, _ => by simp [toBls] at h
  | .str _ :: _, _, _, _, _, h, _ => by simp [toBls] at h
  | .tup _ :: _, _, _, _, _, h, _ => by simp [toBls] at h
  | .lst _ _ :: _, _, _, _, _, h, _ => by simp [toBls] at h
  | .dic _ _ _ _ :: _, _, _, _, _, h, _ => by simp [toBls] at h
  | .box _ :: _, _, _, _, _, h, _ => by simp [toBls] at h
  | .fn _ :: _, _, _, _, _, h, _ => by simp [toBls] at h
  | .ty _ :: _, _, _, _, _, h, _ => by simp [toBls] at h
  | .exc _ _ :: _, _, _, _, _, h, _ => by simp [toBls] at h
  | .ro _ :: _, _, _, _, _, h, _ => by simp [toBls] at h
theorem v_all : OpV K mg (rAll K) gAll := by
  intro ρ s H ds vs a f d w r h e Q q
  unfold Zm.gAll at e
  split at e
  · rw [Option.map_eq_some_iff] at e
    obtain ⟨ns, e1, rfl⟩ := e
    obtain ⟨v1, rfl, r1⟩ := r.inv1
    obtain ⟨p1, vs1, b1, g1, rfl, h1, t1, l1⟩ := inv_lst r1
    rw [toBls_eq e1 t1] at h1
    exact ⟨p1, ns, rfl, SqL.of h1, fin_bl q⟩
  · cases e
theorem v_list : OpV K mg (fun xs H Q => ∃ p ys, xs = [.ref p] ∧ (SqL K H p ys ∨ SqT K H p ys) ∧ ∀ l, H l = none → Q (.ref l) (upd H l (.lst ys))) gList := by
  intro ρ s H ds vs a f d w r h e Q q
  unfold Zm.gList at e
  split at e
  · cases e
    obtain ⟨v1, rfl, r1⟩ := r.inv1
    obtain ⟨p1, vs1, b1, g1, rfl, h1, t1, l1⟩ := inv_lst r1
    refine ⟨p1, vs1, rfl, .inl (SqL.of h1), fun p hp => ?_⟩
    obtain ⟨n1, n2⟩ := new_lst w hp t1 (h.le l1)
    exact q _ _ _ _ (same_upd hp) n1 (n2.le l1)
  · cases e
    obtain ⟨v1, rfl, r1⟩ := r.inv1
    obtain ⟨p1, vs1, rfl, h1, t1⟩ := inv_tup r1
    refine ⟨p1, vs1, rfl, .inr (SqT.of h1), fun p hp => ?_⟩
    obtain ⟨n1, n2⟩ := new_lst w hp t1 h
    exact q _ _ _ _ (same_upd hp) n1 n2
  · cases e
    obtain ⟨v1, rfl, r1⟩ := r.inv1
    cases r1 with
    | ro hq _ _ =>
      refine ⟨_, _, rfl, .inl hq.L, fun p hp => ?_⟩
      obtain ⟨n1, n2⟩ := new_lst w hp (reps_ints _) (fun x => ⟨Nat.zero_le _, fun z => no0 z⟩)
      exact q _ _ _ _ (same_upd hp) n1 (n2.le fun x => ⟨Nat.zero_le _, Nat.zero_le _⟩)
  · rw [Option.map_eq_some_iff] at e
    obtain ⟨xs, e1, rfl⟩ := e
    obtain ⟨v1, rfl, r1⟩ := r.inv1
    cases r1 with
    | box hn _ _ =>
      obtain ⟨pl, vs1, b1, g1, hp1, t1⟩ := w.at_ _ _ _ hn e1
      have z := t1.plain pl
      have t0 := t1.cong (A' := c0) (F' := c0) (fun p => (z p).1.symm) (fun p => (z p).2.symm)
      refine ⟨_, _, rfl, .inl (SqL.of hp1), fun p hp => ?_⟩
      obtain ⟨n1, n2⟩ := new_lst w hp t0 (fun x => ⟨Nat.zero_le _, fun z => no0 z⟩)
      exact q _ _ _ _ (same_upd hp) n1 (n2.le fun x => ⟨Nat.zero_le _, Nat.zero_le _⟩)
  · cases e
theorem v_tuple : OpV K mg (fun xs H Q => ∃ p ys, xs = [.ref p] ∧ ((SqL K H p ys ∧ ∀ l, H l = none → Q (.ref l) (upd H l (.tup ys))) ∨ (SqT K H p ys ∧ Q (.ref p) H))) gTuple := by
  intro ρ s H ds vs a f d w r h e Q q
  unfold Zm.gTuple at e
  split at e
  · cases e
    obtain ⟨v1, rfl, r1⟩ := r.inv1
    obtain ⟨p1, vs1, b1, g1, rfl, h1, t1, l1⟩ := inv_lst r1
    exact ⟨p1, vs1, rfl, .inl ⟨SqL.of h1, fun p hp => q _ _ _ _ (same_upd hp) (new_tup hp t1) ((Out.refl (h.le l1)).le l1)⟩⟩
  · cases e
    obtain ⟨v1, rfl, r1⟩ := r.inv1
    obtain ⟨p1, vs1, rfl, h1, t1⟩ := inv_tup r1
    exact ⟨p1, vs1, rfl, .inr ⟨SqT.of h1, q _ H _ _ (fun _ _ h => h) (.tup h1 t1) (.refl h)⟩⟩
  · cases e
    obtain ⟨v1, rfl, r1⟩ := r.inv1
    cases r1 with
    | ro hq _ _ => exact ⟨_, _, rfl, .inl ⟨hq.L, fun p hp => q _ _ _ _ (same_upd hp) (new_tup hp (reps_ints _)) (.zero (fun _ => rfl) (fun _ => rfl))⟩⟩
  · cases e
theorem isi_ty {H : Hp} {ρ : List Addr} {s : Sto} {d : D} {v : V} {a f : Cnt} {n : String} (w : Wd K mg ρ s H) (e : tyOf d = some n) (r : Rep K mg H ρ d v a f) : TyX K H v (.type n) := by
  have dk : ∀ {o : Bool} {ks vs : List D} {v : V}, Rep K mg H ρ (.dic o false ks vs) v a f → TyX K H v (.type "dict") := fun h => by
    cases h with
    | dicO h _ _ _ _ _ =>
      obtain ⟨u, e, kvs, rfl, _⟩ := h
      exact .base (.dK e)
    | dicF h _ _ _ _ _ =>
      obtain ⟨u, e | ⟨o, e⟩, kvs, rfl, _⟩ := h
      · exact .base (.dK e)
      · exact .fDict e
  cases d
  case dic o t ks vs =>
    cases t with
    | true => simp [tyOf] at e
    | false => simp only [tyOf, Option.some.injEq] at e; subst e; exact dk r
  all_goals simp only [tyOf, Option.some.injEq, reduceCtorEq] at e
  all_goals subst e
  · cases r; exact .base .non
  · cases r; exact .base (.bl _)
  · cases r; exact .base (.int _)
  · cases r; exact .base (.str _)
  · obtain ⟨p1, vs1, rfl, h1, t1⟩ := inv_tup r; exact .base (.tup h1)
  · obtain ⟨p1, vs1, b1, g1, rfl, h1, t1, l1⟩ := inv_lst r; exact .base (.lst h1)
  · cases r with
    | box hn _ _ =>
      obtain ⟨l, hl⟩ := w.lst (List.mem_of_getElem? hn)
      exact .base (.lst hl)
  · cases r with
    | ro hq _ _ =>
      rcases hq with ⟨o, hq⟩ | ⟨o, its, n, h1, h2, _⟩
      · exact .base (.frz hq)
      · exact .kList h1 h2
theorem v_isi : OpV K mg (rIsi K) gIsi := by
  intro ρ s H ds vs a f d w r h e Q q
  unfold Zm.gIsi at e
  split at e
  · rw [Option.bind_eq_some_iff] at e
    obtain ⟨n, e1, e2⟩ := e
    split at e2
    · rename_i z
      cases e2
      obtain ⟨v1, v2, _, _, _, _, rfl, r1, r2, _⟩ := r.inv2
      cases r2 with
      | ty _ _ => exact ⟨_, _, _, _, _, rfl, .ty _, isi_ty w e1 r1, kit_ty (kit_known e1 z), fin_bl q⟩
    · cases e2
  · cases e
end
end Zm
set_option Elab.async false
set_option linter.all false
set_option maxRecDepth 100000
set_option autoImplicit false
/-! Z12: the law's own call. -/
namespace Zm
open PySem PySem.Spec PyProof.Rows L2
section
variable {P : Program} {w : World} {K : PySem.W.Frag} {mg mb : Str → Option Value}
/-- from a heap in which at most the script is tracked -/
theorem call_from {k : Nat} {fa a : Addr} {fd : FuncData} {x : Str} {sp : Sp} {s₁ : Shared} {vs : List Value} {ns : List Int} {H : Hp}
    (kx : K.In s₁.heap) (nsm : s₁.heap.Ns mainGlobals mg) (nsb : s₁.heap.Ns builtinsNs mb)
    (bb : ∀ x : Str, x ≠ "__name__" → mb x = bootBuiltins x) (lim : s₁.heap.NoLimit) (gg : s₁.gens = #[])
    (at_a : s₁.heap.get? a = some { cls := .type "list", data := .seq vs.toArray })
    (hr : Room k callerA)
    (F : ∀ base : Heap, K.In base → base.Ns mainGlobals mg → FnG P w K mg base k fa fd [x] sp)
    (bnd : ∀ (s : Shared) (u : Value), BindsTo s fd ⟨[u], []⟩ [(x, u)])
    (fz : ∀ b o, H b = some o → b = a ∧ K.lookup a = none ∧ ∃ ob xs, o = .frz ob (.lst xs)) (hok : HOk P w H s₁.heap)
    (want : sp [.ref a] H (fun v _ => v = .bl true) fun _ _ _ => False) :
    codeAny (model P w) callerA (.call (.ref fa) ⟨[.ref a], []⟩)
      (fun r s' => r = .ok (.ret (.bool true)) ∧ OldK s₁.heap s'.heap ∧ s'.os = s₁.os ∧ AllBare s'.gens) s₁ := by
  have untracked : ∀ {b : Addr} {o : Obj} {es : Array DictEntry} {ep : Nat}, s₁.heap.get? b = some o → o.data = .dict es ep → H b = none := by
    intro b o es ep e d
    match q : H b with
    | none => rfl
    | some u =>
      obtain ⟨rfl, _⟩ := fz b u q
      rw [at_a] at e
      cases e
      exact nomatch d
  have up : ∀ {b : Addr} {m : Str → Option Value}, s₁.heap.Ns b m → (hidT s₁.heap H).Ns b m := by
    rintro b m ⟨o, es, ep, e, d, r⟩
    exact ⟨o, es, ep, hidT_get e (untracked e d), d, r⟩
  have kb : K.In (hidT s₁.heap H) := by
    intro b o e
    refine hidT_get (kx b o e) ?_
    match q : H b with
    | none => rfl
    | some u =>
      obtain ⟨rfl, hk, _⟩ := fz b u q
      rw [hk] at e; cases e
  obtain ⟨mc, l1, l2⟩ := lim
  have md : Mod K mg (hidT s₁.heap H) := ⟨kb, up nsm, ⟨mb, up nsb, bb⟩, mc, up l1, l2⟩
  have none_in : ∀ b : Addr, b ∉ frs ([] : List PySem.Env) := fun b z => by simp [frs] at z
  have ent : Env0 P w K mg (hidT s₁.heap H) callerA [] s₁ H :=
    ⟨rfl, md, fun b o e => of_hidT e, Nat.le_of_eq (hidT_size _ _), trivial, fun b hb => (none_in b hb).elim, hok, .of_eq gg⟩
  have run := (F _ kb (up nsm)).run callerA [] s₁ H ⟨[.ref a], []⟩ [.ref a] [.ref a] _ _ hr rfl ent (bnd s₁ (.ref a)) (.cons rfl .nil) want
  refine codeAny_mono run ?_
  intro r s' h
  match r, h with
  | .error e, h =>
    obtain ⟨_, _, _, _, _, _, _, _, _, _, _, _, z⟩ := h
    exact z.elim
  | .ok .next, h => exact h.elim
  | .ok .brk, h => exact h.elim
  | .ok .cont, h => exact h.elim
  | .ok (.ret u), h =>
    obtain ⟨v, H', os, bare, un, hok', rel, q⟩ := h
    cases (show v = .bl true from q)
    cases (show u = Value.bool true from rel)
    refine ⟨rfl, OldK.of_keep ?_, os, bare⟩
    intro b o e
    match q : H b with
    | none => exact un.keep b o e q (none_in b) (by simp)
    | some u =>
      obtain ⟨_, _, ob, xs, rfl⟩ := fz b u q
      have after := (hok' b _ (un.frzs b ob _ q)).1
      have ahead := (hok b _ q).1
      rw [e] at ahead
      cases ahead
      exact after
theorem law_callG {k : Nat} {fa a : Addr} {fd : FuncData} {x : Str} {sp : Sp} {s₁ : Shared} {vs : List Value} {ns : List Int}
    (kx : K.In s₁.heap) (nsm : s₁.heap.Ns mainGlobals mg) (nsb : s₁.heap.Ns builtinsNs mb)
    (bb : ∀ x : Str, x ≠ "__name__" → mb x = bootBuiltins x) (lim : s₁.heap.NoLimit) (gg : s₁.gens = #[])
    (at_a : s₁.heap.get? a = some { cls := .type "list", data := .seq vs.toArray }) (ia : IntsAre vs ns) (hl : ns.length ≤ sizeLine)
    (hr : Room k callerA)
    (F : ∀ base : Heap, K.In base → base.Ns mainGlobals mg → FnG P w K mg base k fa fd [x] sp)
    (bnd : ∀ (s : Shared) (u : Value), BindsTo s fd ⟨[u], []⟩ [(x, u)])
    (hsp : ∀ H : Hp, SqR K H a (ns.map V.int) → sp [.ref a] H (fun v _ => v = .bl true) fun _ _ _ => False) :
    codeAny (model P w) callerA (.call (.ref fa) ⟨[.ref a], []⟩)
      (fun r s' => r = .ok (.ret (.bool true)) ∧ OldK s₁.heap s'.heap ∧ s'.os = s₁.os ∧ AllBare s'.gens) s₁ := by
  have rv := vals_ints ia
  have ln := ia.length
  match hk : K.lookup a with
  | some o =>
    have e := kx a o hk
    rw [at_a] at e
    cases e
    refine call_from (ns := ns) (H := fun _ => none) kx nsm nsb bb lim gg at_a hr F bnd (fun b o z => nomatch z) (fun b o z => nomatch z) (hsp _ (.inr ⟨_, vs.toArray, _, hk, rfl, rfl, rfl, ?_, by simpa using rv⟩))
    rw [List.size_toArray, ln]
    exact hl
  | none =>
    let ob : Obj := { cls := .type "list", data := .seq vs.toArray }
    let H : Hp := fun b => if b = a then some (.frz ob (.lst (ns.map V.int))) else none
    have onA : H a = some (.frz ob (.lst (ns.map V.int))) := if_pos rfl
    have cas : ∀ b o, H b = some o → b = a ∧ o = .frz ob (.lst (ns.map V.int)) := by
      intro b o z
      by_cases hb : b = a
      · subst hb
        rw [onA] at z
        exact ⟨rfl, (Option.some.inj z).symm⟩
      · have : H b = none := if_neg hb
        rw [this] at z; cases z
    refine call_from (ns := ns) (H := H) kx nsm nsb bb lim gg at_a hr F bnd (fun b o z => ?_) (fun b o z => ?_) (hsp H (.inl ⟨ob, onA⟩))
    · obtain ⟨rfl, rfl⟩ := cas b o z
      exact ⟨rfl, hk, _, _, rfl⟩
    · obtain ⟨rfl, rfl⟩ := cas b o z
      exact ⟨at_a, by rw [List.length_map]; exact hl, vs, _, rv, at_a⟩
end
/-- the end of a law's row -/
theorem walk_ofG {l : PySem.W.OpenLaw} {n k : Nat} {q : Program} {loose : List Str} {XP : (Str → Option Value) → Heap → Prop} {YP : World → Heap → Prop} {d : DefRec} {K : Params → PySem.W.Frag} {m : Fn} {x : Str}
    (hn : l.most = some n) (hn2 : n ≤ sizeLine) (hdf : d.params.defaults = []) (hr : Room k callerA)
    (hY : ∀ (w : World) (h : Heap), YP w h → (K w.params).In h)
    (F : ∀ (w : World) (mg : Str → Option Value) (fa : Addr) (h : Heap), (K w.params).In h → h.Ns mainGlobals mg → mg d.name = some (.ref fa) →
      ∃ fd : FuncData, (∀ (s : Shared) (u : Value), BindsTo s fd ⟨[u], []⟩ [(x, u)]) ∧
        ∀ base : Heap, (K w.params).In base → base.Ns mainGlobals mg → FnG l.prog w (K w.params) mg base k fa fd [x] (spF (K w.params) mg m))
    (good : ∀ ns : List Int, ns.length ≤ n → ∃ s, m [.ro ns] [] = .ok (.bl true) s) :
    PySem.W.WalkO q loose XP YP l.row.toRowW d [] (fun f vs => PySem.call f vs) := by
  refine Att.attach_call hn hdf ?_
  intro w s₀ s₁ mg mb fa o pm cd doc a vs ns G Y ho hd hcd hmg hobj hints hlen hg
  have kx := hY w _ Y
  obtain ⟨fd, hb, hF⟩ := F w mg fa _ kx G.T.g hmg
  refine law_callG kx G.T.g G.T.b G.T.builtins G.T.nolimit hg hobj hints (Nat.le_trans hlen hn2) hr hF hb ?_
  intro H hS
  obtain ⟨s, hs⟩ := good ns hlen
  refine ⟨[.ro ns], [], [], c0, c0, ⟨rfl, .nil, fun n p xs e => by simp at e⟩, Reps.one (.ro hS (fun _ => rfl) (fun _ => rfl)), fun x => ⟨Nat.zero_le _, fun z => no0 z⟩, ?_⟩
  rw [hs]
  intro v H' ρ' a' f' _ _ rp _
  exact inv_bl rp
end Zm
set_option Elab.async false
set_option linter.all false
set_option maxRecDepth 100000
set_option autoImplicit false
/-! Z13: what is never reached; lists written by methods and by places; targets of many names. -/
namespace Zm
open PySem PySem.Spec PyProof.Rows L2
@[simp] def mBadE : M := fun _ _ => .bad
@[simp] def mBadS : MS := fun _ _ => .bad
section
variable {X : Cx} {W : WX} {st : Stmt} {sts : List Stmt} {e : Expr}
end
/-! ### the value may be frozen: then the mask's slots are, too -/
def mSetD (msk : List Bool) (i : Nat) (m : M) : MS := fun σ s => (m σ s).to σ fun d s' => if noF d = true then (if i < σ.length then .nx (σ.set i (some d)) s' else .bad) else mSetF msk i m σ s
theorem rS_or {K : PySem.W.Frag} {mg : Str → Option Value} {W : WX} {m m' m2 : MS} {D : Ends} {σ : L2.St} {H : Hp} {P : Prop} (h : rS K mg W m D σ H) (hm : ∀ σ s, m σ s = m' σ s ∨ m σ s = m2 σ s)
    (h1 : rS K mg W m' D σ H → P) (h2 : rS K mg W m2 D σ H → P) : P := by
  obtain ⟨σm, s, ρ, A, F, rel, h⟩ := h
  rcases hm σm s with e | e
  · exact h1 ⟨σm, s, ρ, A, F, rel, e ▸ h⟩
  · exact h2 ⟨σm, s, ρ, A, F, rel, e ▸ h⟩
theorem setD_or {msk : List Bool} {i : Nat} {m : M} (σ : Env) (s : Sto) : mSetD msk i m σ s = mSet i m σ s ∨ mSetD msk i m σ s = mSetF msk i m σ s := by
  unfold mSetD mSet
  cases m σ s with
  | bad => exact .inl rfl
  | ex x s1 => exact .inl rfl
  | ok d s1 =>
    simp only [R.to_ok]
    by_cases z : noF d = true
    · left; by_cases y : i < σ.length <;> simp [z, y]
    · right; simp [z]
section
variable {X : Cx} {W : WX} {e : Expr} {m : M} {pos pos' : Pos} {x : Str}
theorem ss_setD (i : Nat) (msk : List Bool) (nd : X.N.Nodup) (he : SE X W e m) (hi : X.N[i]? = some x := by rfl) (hx : Loc X.env.scope x := by first | exact .inl rfl | exact .inr rfl) (hs : swapsWith e (some (.Name x pos')) pos.line X.env = pure false := by rfl)
    (hf : X.fn x = true ∨ X.env.scope.names.lookup x = some .local := by first | exact .inl rfl | exact .inr rfl) : SS X W (.Assign [.Name x pos'] e pos) (mSetD msk i m) :=
  PS.imp (ps_set nd hi hx he hs hf) fun D σ H h => rS_or h setD_or set_end setF_end
end
/-! ### an owned list at a slot, its contents made anew of them and of arguments -/
abbrev UG := List D → List D → Option (List D)
def mUpdO (g : UG) (i : Nat) (ms : List M) : MS := fun σ s => match σ[i]? with
  | some (some (.lst true xs)) => (mArgs ms σ s).to σ fun ds s' => if noFs ds = true then (match g xs ds with
    | some ys => .nx (σ.set i (some (.lst true ys))) s'
    | none => .bad) else .bad
  | _ => .bad
def mUpdF (g : UG) (msk : List Bool) (i : Nat) (ms : List M) : MS := fun σ s => match (frzE msk σ)[i]? with
  | some (some (.lst true xs)) => (mArgs ms (restr msk σ) s).to σ fun ds s' => (match g xs (fzs ds) with
    | some ys => .nx ((frzE msk σ).set i (some (.lst true ys))) s'
    | none => .bad)
  | _ => .bad
def mUpd (g : UG) (msk : List Bool) (i : Nat) (ms : List M) : MS := fun σ s => match σ[i]? with
  | some (some (.lst true xs)) => (mArgs ms σ s).to σ fun ds s' => if noFs ds = true then (match g xs ds with
    | some ys => .nx (σ.set i (some (.lst true ys))) s'
    | none => .bad) else mUpdF g msk i ms σ s
  | _ => .bad
theorem upd_or {g : UG} {msk : List Bool} {i : Nat} {ms : List M} (σ : Env) (s : Sto) : mUpd g msk i ms σ s = mUpdO g i ms σ s ∨ mUpd g msk i ms σ s = mUpdF g msk i ms σ s := by
  unfold mUpd mUpdO
  split
  · rename_i xs hx
    cases mArgs ms σ s with
    | bad => exact .inl rfl
    | ex x s1 => exact .inl rfl
    | ok ds s1 =>
      simp only [R.to_ok]
      by_cases z : noFs ds = true
      · left; simp [z]
      · right; simp [z]
  · exact .inl rfl
/-- the contents' new values: of the old and of the arguments' -/
def UV (K : PySem.W.Frag) (mg : Str → Option Value) (r : Addr → List V → Hp → Hp → Prop) (g : UG) : Prop :=
  ∀ (H : Hp) (ρ : List Addr) (p : Addr) (xs ds ys : List D) (vs ws : List V) (a1 f1 a f : Cnt), H p = some (.lst vs) → Reps K mg H ρ xs vs a1 f1 → Reps K mg H ρ ds ws a f → g xs ds = some ys →
    ∃ vs' a' f', Reps K mg H ρ ys vs' a' f' ∧ (∀ x, a' x ≤ a1 x + a x ∧ f' x ≤ f1 x + f x) ∧ r p ws H (upd H p (.lst vs'))
section
variable {K : PySem.W.Frag} {mg : Str → Option Value} {W : WX} {H H' H1 : Hp} {ρ ρ' ρ1 : List Addr} {σm : Env} {σ : L2.St} {s s' s1 : Sto} {d e : D} {v : V} {A F A' F' A1 F1 a f Mc : Cnt} {D : Ends} {i : Nat} {g : UG} {ms : List M} {msk : List Bool} {r : Addr → List V → Hp → Hp → Prop}
theorem updO_end (hv : UV K mg r g) (h : rS K mg W (mUpdO g i ms) D σ H) :
    ∃ p l, σ[i]? = some (some (.ref p)) ∧ H p = some (.lst l) ∧ rA K mg W (mArgs ms) σ H fun ws H1 => ∃ l' H2, H1 p = some (.lst l') ∧ r p ws H1 H2 ∧ D.nx σ H2 := by
  obtain ⟨σm, s, ρ, A, F, rel, h⟩ := h
  unfold mUpdO at h
  split at h
  · rename_i xs hσ
    obtain ⟨p, vs, a1, f1, A2, F2, e1, hp, r0, q, wr⟩ := rel.wr hσ
    refine ⟨p, vs, e1, hp, σm, s, ρ, A, F, rel, ?_⟩
    cases e : mArgs ms σm s with
    | bad => rw [e] at h; exact h
    | ex x s1 =>
      rw [e] at h
      exact fun cls dd H' ρ' fr wd rx => h cls dd σ H' ρ' A F fr.up (rel.next fr wd) .refl rx
    | ok ds s1 =>
      rw [e] at h
      intro ws H1 ρ1 a f fr wd rp gd
      simp only [R.to_ok] at h
      split at h
      · rename_i z
        have hf := rp.noF z
        have ev := rel.env.there
        split at h
        · rename_i ys hy
          obtain ⟨hp1, _, _⟩ := wr H1 ρ1 s1 xs vs a1 f1 fr wd (r0.on fr) fun x => by
            have := q x; have s0 := rel.sep x
            exact ⟨by omega, fun z => by have := s0.2 (by omega); omega⟩
          obtain ⟨vs', a', f', r', le, rr⟩ := hv H1 ρ1 p xs ds ys vs ws a1 f1 a f hp1 (r0.on fr) rp hy
          have sp : ∀ x, A x + a x ≤ 1 ∧ (1 ≤ A x + a x → F x = 0) ∧ (1 ≤ a x → H x = none) := fun x => by
            have s0 := rel.sep x
            obtain ⟨g1, g2, g3⟩ := gd x
            by_cases y : 1 ≤ a x
            · have hn := (g2 y).2
              have : ¬ 1 ≤ A x + F x := fun z => by obtain ⟨⟨o, ho⟩, _⟩ := ev x z; rw [hn] at ho; cases ho
              exact ⟨by omega, by omega, fun _ => hn⟩
            · exact ⟨by omega, fun z => s0.2 (by omega), fun z => by omega⟩
          obtain ⟨_, h2, h3⟩ := wr H1 ρ1 s1 ys vs' a' f' fr wd r' fun x => by
            have l := le x
            have q0 := q x
            have s0 := sp x
            have h0 := hf x
            refine ⟨by omega, fun z => ?_⟩
            have := s0.2.1 (by omega)
            omega
          refine ⟨vs, _, hp1, rr, h _ _ _ _ _ h2 h3 fun x => ?_⟩
          have l := le x
          have q0 := q x
          have s0 := sp x
          have h0 := hf x
          refine ⟨fun y => ?_, fun y => .inr (.inl (by omega))⟩
          by_cases w : 1 ≤ a x
          · exact .inr (s0.2.2 w)
          · exact .inl (by omega)
        · exact h.elim
      · exact h.elim
  · exact h.elim
theorem updF_end (hv : UV K mg r g) (h : rS K mg W (mUpdF g msk i ms) D σ H) :
    ∃ p l, σ[i]? = some (some (.ref p)) ∧ H p = some (.lst l) ∧ rA K mg W (mArgs ms) σ H fun ws H1 => ∃ l' H2, H1 p = some (.lst l') ∧ r p ws H1 H2 ∧ D.nx σ H2 := by
  obtain ⟨σm, s, ρ, A, F, rel, h⟩ := h
  unfold mUpdF at h
  split at h
  · rename_i xs hσ
    obtain ⟨Am, Fm, Ar, F2', r1, r2, qm⟩ := rel.mask (msk := msk)
    have rel2 : Rel K mg (frzE msk σm) s σ H ρ Ar F2' := ⟨r2, rel.wd, fun x => by
      have s0 := rel.sep x
      have q0 := qm x
      refine ⟨by omega, fun z => ?_⟩
      have := s0.2 (by omega)
      by_cases w : 1 ≤ F2' x
      · have := q0.2.2 w; omega
      · omega⟩
    obtain ⟨p, vs, a1, f1, A2, F2, e1, hp, r0, q, wr⟩ := rel2.wr hσ
    refine ⟨p, vs, e1, hp, _, s, ρ, Am, Fm, r1, ?_⟩
    cases e : mArgs ms (restr msk σm) s with
    | bad => rw [e] at h; exact h
    | ex x s1 =>
      rw [e] at h
      exact fun cls dd H' ρ' fr wd rx => h cls dd σ H' ρ' A F fr.up (rel.next fr wd) .refl rx
    | ok ds s1 =>
      rw [e] at h
      intro ws H1 ρ1 a f fr wd rp gd
      simp only [R.to_ok] at h
      obtain ⟨f0, rp', qf⟩ := rp.fz
      have ev := rel.env.there
      have key : ∀ x, 1 ≤ f0 x → 1 ≤ Am x ∨ 1 ≤ Fm x ∨ H x = none := fun x h => by
        have := qf x h
        obtain ⟨g1, g2, g3⟩ := gd x
        by_cases z : 1 ≤ a x
        · exact .inr (.inr (g2 z).2)
        · exact g3 (by omega)
      split at h
      · rename_i ys hy
        obtain ⟨hp1, _, _⟩ := wr H1 ρ1 s1 xs vs a1 f1 fr wd (r0.on fr) fun x => by
          have := q x; have s0 := rel2.sep x
          exact ⟨by omega, fun z => by have := s0.2 (by omega); omega⟩
        obtain ⟨vs', a', f', r', le, rr⟩ := hv H1 ρ1 p xs (fzs ds) ys vs ws a1 f1 c0 f0 hp1 (r0.on fr) rp' hy
        have sp : ∀ x, Ar x ≤ 1 ∧ (1 ≤ Ar x → F2' x = 0 ∧ f0 x = 0) := fun x => by
          have s0 := rel2.sep x
          have s1 := rel.sep x
          have q0 := qm x
          refine ⟨s0.1, fun y => ⟨s0.2 y, ?_⟩⟩
          cases w : f0 x with
          | zero => rfl
          | succ k =>
            rcases key x (by omega) with w | w | w
            · omega
            · have := s1.2 (by omega); omega
            · obtain ⟨⟨o, ho⟩, _⟩ := ev x (by omega)
              rw [w] at ho; cases ho
        obtain ⟨_, h2, h3⟩ := wr H1 ρ1 s1 ys vs' a' f' fr wd r' fun x => by
          have l := le x
          have q0 := q x
          have s0 := sp x
          have z0 : c0 x = 0 := rfl
          refine ⟨by omega, fun z => ?_⟩
          have := s0.2 (by omega)
          omega
        have frA : Fr A H (upd H1 p (.lst vs')) ρ ρ1 := h2.mono fun x y => .inl (by have := qm x; omega)
        refine ⟨vs, _, hp1, rr, h _ _ _ _ _ frA h3 fun x => ?_⟩
        have l := le x
        have q0 := q x
        have m0 := qm x
        have z0 : c0 x = 0 := rfl
        refine ⟨fun y => .inl (by omega), fun y => ?_⟩
        by_cases w : 1 ≤ f0 x
        · rcases key x w with w | w | w
          · exact .inl (by omega)
          · exact .inr (.inl (by omega))
          · exact .inr (.inr w)
        · have := m0.2.2 (by omega)
          omega
      · exact h.elim
  · exact h.elim
theorem upd_end (hv : UV K mg r g) (h : rS K mg W (mUpd g msk i ms) D σ H) :
    ∃ p l, σ[i]? = some (some (.ref p)) ∧ H p = some (.lst l) ∧ rA K mg W (mArgs ms) σ H fun ws H1 => ∃ l' H2, H1 p = some (.lst l') ∧ r p ws H1 H2 ∧ D.nx σ H2 :=
  rS_or h upd_or (updO_end hv) (updF_end hv)
end
end Zm
set_option Elab.async false
set_option linter.all false
set_option maxRecDepth 100000
set_option autoImplicit false
/-! Z14: the list's methods as statements; stores by place; many names at once. -/
namespace Zm
open PySem PySem.Spec PyProof.Rows L2
section
variable {K : PySem.W.Frag} {mg : Str → Option Value} {W : WX} {σ : L2.St} {H : Hp} {ms : List M}
theorem rA_mono {Q Q' : List V → Hp → Prop} (h : rA K mg W (mArgs ms) σ H Q) (q : ∀ v H', Q v H' → Q' v H') : rA K mg W (mArgs ms) σ H Q' := by
  obtain ⟨σm, s, ρ, A, F, rel, h⟩ := h
  refine ⟨σm, s, ρ, A, F, rel, ?_⟩
  cases e1 : mArgs ms σm s with
  | bad => rw [e1] at h; exact h
  | ex x s1 => rw [e1] at h; exact h
  | ok d s1 =>
    rw [e1] at h
    intro v H1 ρ1 a f fr wd rp g
    exact q _ _ (h v H1 ρ1 a f fr wd rp g)
end
abbrev rrM (rM : V → List V → Hp → VK → Prop) : Addr → List V → Hp → Hp → Prop := fun p ws H H2 => ∀ Q : VK, Q .non H2 → rM (.ref p) ws H Q
section
variable {X : Cx} {W : WX} {e : Expr} {es : List Expr} {m : M} {ms : List M} {pos pos' apos cpos : Pos} {x : Str} {name : Str} {id : String} {rM : V → List V → Hp → VK → Prop} {g : UG}
theorem ss_met (i : Nat) (msk : List Bool) (slot : Slot "list" name id) (hty : typeOf (.builtin id) = pure (.type "method_descriptor")) (hm : MtR X id rM) (hv : UV X.K X.mg (rrM rM) g) (ha : SA X W (e :: es) ms) (hN : X.N[i]? = some x := by rfl)
    (hvis : Vis X.env.scope x := by first | exact Or.inl rfl | exact Or.inr (Or.inl rfl) | exact Or.inr (Or.inr rfl)) (hd : (x == ("__debug__" : Str)) = false := by decide) (hcd : (x == ("__classdict__" : Str)) = false := by decide)
    (hst : starEach (e :: es) X.env = (false, eval e X.env) :: starEach es X.env := by rfl) (hplain : (backTo cpos (starEach es X.env)).any (·.1) = false := by rfl) (hline : (apos.endLine == cpos.line) = true := by rfl)
    (hfew : ((backTo cpos (starEach (e :: es) X.env)).all (fun x => !x.1) && (backToKw cpos (keywordEach [] X.env)).all (fun x => x.1.isSome) && decide ((e :: es).length + ([] : List Keyword).length + (if ([] : List Keyword).isEmpty then 0 else 1) < 30)) = true := by rfl)
    (hs : swapsWith (.Call (.Attribute (.Name x pos') name apos) (e :: es) [] cpos) none pos.line X.env = pure false := by rfl) :
    SS X W (.Expr (.Call (.Attribute (.Name x pos') name apos) (e :: es) [] cpos) pos) (mUpd g msk i ms) :=
  PS.imp (ps_expr (pe_bm PySem.F.plainAttrs_list slot hty hm (pe_var hN hvis hd hcd) ha (hbase := by rfl) (hfew := hfew) (hline := hline) (hs := hst) (hplain := hplain)) hs) fun D σ H h => by
    obtain ⟨p, l, e1, hp, h⟩ := upd_end hv h
    exact ⟨_, e1, .inl ⟨rfl, _, SqL.of hp⟩, rA_mono h fun ws H1 ⟨l', H2, _, rr, q⟩ => rr _ q⟩
end
def uApp : UG := fun xs ds => match ds with
  | [d] => if xs.length < sizeLine then some (xs ++ [d]) else none
  | _ => none
section
variable {K : PySem.W.Frag} {mg : Str → Option Value}
theorem u_app : UV K mg (rrM rAppend) uApp := by
  intro H ρ p xs ds ys vs ws a1 f1 a f hp r1 r2 e
  unfold uApp at e
  split at e
  · split at e
    · rename_i z
      cases e
      obtain ⟨v, rfl, rv⟩ := r2.inv1
      exact ⟨vs ++ [v], _, _, r1.append r2, fun x => ⟨Nat.le_refl _, Nat.le_refl _⟩, fun Q q => ⟨p, vs, v, rfl, rfl, hp, by rw [← r1.length]; exact z, q⟩⟩
    · cases e
  · cases e
end
section
variable {X : Cx} {W : WX} {e : Expr} {m : M} {pos pos' apos cpos : Pos} {x : Str}
theorem ss_appD (i : Nat) (msk : List Bool) (he : SE X W e m) (hN : X.N[i]? = some x := by rfl) (hvis : Vis X.env.scope x := by first | exact Or.inl rfl | exact Or.inr (Or.inl rfl) | exact Or.inr (Or.inr rfl)) (hd : (x == ("__debug__" : Str)) = false := by decide) (hcd : (x == ("__classdict__" : Str)) = false := by decide)
    (hst : starEach [e] X.env = [(false, eval e X.env)] := by rfl) (hline : (apos.endLine == cpos.line) = true := by rfl) (hs : swapsWith (.Call (.Attribute (.Name x pos') "append" apos) [e] [] cpos) none pos.line X.env = pure false := by rfl) :
    SS X W (.Expr (.Call (.Attribute (.Name x pos') "append" apos) [e] [] cpos) pos) (mUpd uApp msk i [m]) :=
  ss_met i msk PySem.F.slot_list_append PySem.F.type_list_append mt_append u_app (sa_cons he sa_nil hst) hN hvis hd hcd hst rfl hline (by rw [hst]; rfl) hs
end
/-! ### x[k] = e, x an owned list or a box -/
def uSet : UG := fun xs ds => match ds with
  | [d, .int k] => match ixN xs.length k with
    | some j => some (xs.set j d)
    | none => none
  | _ => none
def mStB (i : Nat) (mi m : M) : MS := fun σ s => match σ[i]? with
  | some (some (.box n)) => (mArgs [m, mi] σ s).to σ fun ds s' => match s'[n]? with
    | some xs => match uSet xs ds with
      | some ys => if plains ys = true then .nx σ (s'.set n ys) else .bad
      | none => .bad
    | none => .bad
  | _ => .bad
def mSt (msk : List Bool) (i : Nat) (mi m : M) : MS := fun σ s => match σ[i]? with
  | some (some (.box n)) => (mArgs [m, mi] σ s).to σ fun ds s' => match s'[n]? with
    | some xs => match uSet xs ds with
      | some ys => if plains ys = true then .nx σ (s'.set n ys) else .bad
      | none => .bad
    | none => .bad
  | _ => mUpd uSet msk i [m, mi] σ s
theorem st_or {msk : List Bool} {i : Nat} {m mi : M} (σ : Env) (s : Sto) : mSt msk i mi m σ s = mStB i mi m σ s ∨ mSt msk i mi m σ s = mUpd uSet msk i [m, mi] σ s := by
  unfold mSt mStB
  split
  · rename_i n h; exact .inl rfl
  · exact .inr rfl
abbrev rrS : Addr → List V → Hp → Hp → Prop := fun p ws H H2 => ∃ y k, ws = [y, k] ∧ ∀ Q : Hp → Prop, Q H2 → rSetL (.ref p) k y H Q
section
variable {K : PySem.W.Frag} {mg : Str → Option Value} {W : WX} {H H' H1 : Hp} {ρ ρ' ρ1 : List Addr} {σm : Env} {σ : L2.St} {s s' s1 : Sto}
theorem ixN_lt {n j : Nat} {k : Int} (h : ixN n k = some j) : j < n := (ixN_seq h).2.1
theorem u_set : UV K mg rrS uSet := by
  intro H ρ p xs ds ys vs ws a1 f1 a f hp r1 r2 e
  unfold uSet at e
  split at e
  · rename_i d k
    split at e
    · rename_i j hj
      cases e
      obtain ⟨v, u, ax, fx, ay, fy, rfl, rv, ru, q⟩ := r2.inv2
      cases ru
      have hl := ixN_lt hj
      obtain ⟨w, a0, f0, h1, h2, A', F', h3, h4⟩ := r1.set (i := j) (d := xs[j]) (List.getElem?_eq_getElem hl) rv
      exact ⟨vs.set j v, A', F', h3, fun x => by have := h4 x; have := q x; omega, v, _, rfl, fun Q q => ⟨p, vs, k, j, rfl, rfl, hp, by rw [← r1.length]; exact hj, q⟩⟩
    · cases e
  · cases e
/-- a box written -/
theorem wd_box {n : Nat} {p : Addr} {xs ys : List D} {l l' : List V} {a f : Cnt} (wd : Wd K mg ρ s H) (hn : ρ[n]? = some p) (hs : s[n]? = some xs) (hp : H p = some (.lst l)) (hy : plains ys = true) (r : Reps K mg H ρ ys l' a f) : Wd K mg ρ (s.set n ys) (upd H p (.lst l')) ∧ Fr c0 H (upd H p (.lst l')) ρ ρ := by
  have hm : p ∈ ρ := List.mem_of_getElem? hn
  have fr : Fr c0 H (upd H p (.lst l')) ρ ρ := by
    refine ⟨fun x o q => ?_, fun x q => ?_, [], by simp, by simp⟩
    · by_cases z : x = p
      · subst z
        rw [hp] at q; cases q
        exact .inr ⟨trivial, .inl hm⟩
      · rw [upd_ne z]; exact .inl q
    · by_cases z : x = p
      · subst z; rw [upd_same] at q; cases q
      · rw [upd_ne z] at q; exact q
  have hnl : n < s.length := (List.getElem?_eq_some_iff.mp hs).1
  refine ⟨⟨by rw [List.length_set]; exact wd.len, wd.nd, fun k b zs z1 z2 => ?_⟩, fr⟩
  by_cases e : k = n
  · subst e
    rw [hn] at z1; cases z1
    rw [List.getElem?_set_self hnl] at z2; cases z2
    exact ⟨hy, l', a, f, upd_same, r.on fr⟩
  · rw [List.getElem?_set_ne (fun z => e z.symm)] at z2
    obtain ⟨w1, ws, a', f', w2, w3⟩ := wd.at_ k b zs z1 z2
    have nb : b ≠ p := fun z => by
      subst z
      have h1 := List.getElem?_eq_some_iff.mp z1
      have h2 := List.getElem?_eq_some_iff.mp hn
      obtain ⟨i1, q1⟩ := h1
      obtain ⟨i2, q2⟩ := h2
      have hnd := List.pairwise_iff_getElem.mp wd.nd
      rcases Nat.lt_trichotomy k n with w | w | w
      · exact hnd k n i1 i2 w (q1.trans q2.symm)
      · exact e w
      · exact hnd n k i2 i1 w (q2.trans q1.symm)
    exact ⟨w1, ws, a', f', by rw [upd_ne nb]; exact w2, w3.on fr⟩
theorem stB_end {i : Nat} {m mi : M} {D : Ends} (h : rS K mg W (mStB i mi m) D σ H) :
    ∃ p, σ[i]? = some (some (.ref p)) ∧ rA K mg W (mArgs [m, mi]) σ H fun ws H1 => ∃ H2, rrS p ws H1 H2 ∧ D.nx σ H2 := by
  obtain ⟨σm, s, ρ, A, F, rel, h⟩ := h
  unfold mStB at h
  split at h
  · rename_i n hσ
    obtain ⟨v, a0, f0, e1, rp0, _⟩ := rel.env.get hσ
    cases rp0 with
    | @box _ p _ _ hn _ _ =>
      refine ⟨p, e1, σm, s, ρ, A, F, rel, ?_⟩
      cases e : mArgs [m, mi] σm s with
      | bad => rw [e] at h; exact h
      | ex x s1 =>
        rw [e] at h
        exact fun cls dd H' ρ' fr wd rx => h cls dd σ H' ρ' A F fr.up (rel.next fr wd) .refl rx
      | ok ds s1 =>
        rw [e] at h
        intro ws H1 ρ1 a f fr wd rp gd
        simp only [R.to_ok] at h
        split at h
        · rename_i xs hxs
          split at h
          · rename_i ys hys
            split at h
            · rename_i hpl
              obtain ⟨pl, vs, a1, f1, hp, r1⟩ := wd.at_ n p xs (fr.get hn) hxs
              obtain ⟨vs', a', f', r', le, rr⟩ := u_set H1 ρ1 p xs ds ys vs ws a1 f1 a f hp r1 rp hys
              obtain ⟨wd2, fr2⟩ := wd_box wd (fr.get hn) hxs hp hpl r'
              refine ⟨_, rr, h _ _ _ _ _ ((fr.tr fr2).up) ((rel.next fr wd).next fr2 wd2) .refl⟩
            · exact h.elim
          · exact h.elim
        · exact h.elim
  · exact h.elim
theorem st_end {msk : List Bool} {i : Nat} {m mi : M} {D : Ends} (h : rS K mg W (mSt msk i mi m) D σ H) :
    ∃ p, σ[i]? = some (some (.ref p)) ∧ rA K mg W (mArgs [m, mi]) σ H fun ws H1 => ∃ H2, rrS p ws H1 H2 ∧ D.nx σ H2 :=
  rS_or h st_or stB_end fun h => by
    obtain ⟨p, l, e1, hp, h⟩ := upd_end u_set h
    exact ⟨p, e1, rA_mono h fun ws H1 ⟨l', H2, _, rr, q⟩ => ⟨H2, rr, q⟩⟩
end
section
variable {X : Cx} {W : WX} {e ei : Expr} {m mi : M} {pos pos' spos : Pos} {x : Str}
theorem ss_st (i : Nat) (msk : List Bool) (he : SE X W e m) (hi : SE X W ei mi) (hN : X.N[i]? = some x := by rfl) (hvis : Vis X.env.scope x := by first | exact Or.inl rfl | exact Or.inr (Or.inl rfl) | exact Or.inr (Or.inr rfl)) (hd : (x == ("__debug__" : Str)) = false := by decide) (hcd : (x == ("__classdict__" : Str)) = false := by decide)
    (ha : ∀ v, assign (.Subscript (.Name x pos') ei spos) X.env v = (do
      let ov ← holding [v] (eval (.Name x pos') X.env)
      let iv ← holding [v, ov] (eval ei X.env)
      standAt spos
      holding [v, ov, iv] (setItem ov iv v)
      release [v, ov, iv] []) := by intro _; rfl)
    (hs : swapsWithSole [.Subscript (.Name x pos') ei spos] e pos.line X.env = pure false := by rfl) (hw : swappedStores [.Subscript (.Name x pos') ei spos] e X.env = pure none := by rfl)
    (h1 : (assignEach [.Subscript (.Name x pos') ei spos] X.env).map (·.2) = [assign (.Subscript (.Name x pos') ei spos) X.env] := by rfl) :
    SS X W (.Assign [.Subscript (.Name x pos') ei spos] e pos) (mSt msk i mi m) :=
  PS.imp (ps_asg he (pg_sub (pe_var hN hvis hd hcd) hi set_list ha) hs hw h1) fun D σ H h => by
    obtain ⟨p, e1, h⟩ := st_end h
    exact rE_mono (rA_2 h) fun v H1 q => ⟨_, e1, rE_mono q fun u H2 ⟨H3, ⟨y, k, e, rr⟩, q⟩ => by cases e; exact rr _ q⟩
end
end Zm
set_option Elab.async false
set_option linter.all false
set_option maxRecDepth 100000
set_option autoImplicit false
/-! Z15: sum, max, min of tuples; names stored side by side. -/
namespace Zm
open PySem PySem.Spec PyProof.Rows L2
def rMaxT (K : PySem.W.Frag) : List V → Hp → VK → Prop := fun vs H Q => ∃ (p : Addr) (n : Int) (ns : List Int), vs = [V.ref p] ∧ SqT K H p ((n :: ns).map V.int) ∧ Q (.int (ns.foldl max n)) H
def rSumT (K : PySem.W.Frag) : List V → Hp → VK → Prop := fun vs H Q => ∃ (p : Addr) (ns : List Int), vs = [V.ref p] ∧ SqT K H p (ns.map V.int) ∧ Q (.int ns.sum) H
theorem dp_ints {K : PySem.W.Frag} {H : Hp} : ∀ ns : List Int, DpAll K H (ns.map V.int) (ns.map PyData.int)
  | [] => .nil
  | n :: ns => .cons (.int n) (dp_ints ns)
theorem alike_ints (ns : List Int) : PySem.W.AlikeAll (ns.map PyData.int) := by
  refine ⟨fun x hx y hy => ?_, fun x hx => ?_⟩
  · obtain ⟨i, _, rfl⟩ := List.mem_map.mp hx
    obtain ⟨j, _, rfl⟩ := List.mem_map.mp hy
    rfl
  · obtain ⟨i, _, rfl⟩ := List.mem_map.mp hx
    exact fun z => by cases z
theorem depth_ints : ∀ ns : List Int, PyData.depthAll (ns.map PyData.int) ≤ 1 := by
  intro ns
  induction ns with
  | nil => decide
  | cons n ns ih => rw [List.map_cons, PyData.depthAll]; simp only [PyData.depth]; omega
section
variable {X : Cx}
theorem cr_maxT (hc : X.calm = true) (hu : X.A.units + 64 < cLine) : CallR X (.builtin "max") (rMaxT X.K) := by
  intro pins s σ H xs us Q I r h
  obtain ⟨p, n, ns, rfl, hs, q⟩ := h
  obtain ⟨its, rv, ht, hz⟩ := I.tuple hs
  rw [Vals.ref1 r]
  obtain ⟨as, rd⟩ := Dp.readsAll I ((n :: ns).map PyData.int) _ its (dp_ints _) rv
  refine PySem.W.max_tuple_data (I.ok.hd hc) ht rd (alike_ints (n :: ns)) (by have := depth_ints (n :: ns); rw [List.map_cons] at this; omega) fun i v h' tk bs hv rv' hk => ?_
  rw [PySem.W.maxD_ints] at rv'
  cases rv' with
  | int _ t => exact ⟨.int _, H, I.kept hk, ⟨_, rfl⟩, q⟩
theorem preSum_take (ns : List Int) : ∀ j, preSum (fun i => ns.getD i 0) j = (ns.take j).sum
  | 0 => by simp [preSum]
  | j + 1 => by
    rw [preSum, preSum_take ns j, List.take_add_one, List.sum_append]
    by_cases h : j < ns.length
    · simp [List.getD_eq_getElem?_getD, h]
    · simp [List.getD_eq_getElem?_getD, List.getElem?_eq_none (Nat.le_of_not_lt h)]
theorem cr_sumT (hc : X.calm = true) : CallR X (.builtin "sum") (rSumT X.K) := by
  intro pins s σ H xs us Q I r h
  obtain ⟨p, ns, rfl, hs, q⟩ := h
  obtain ⟨its, rv, ht, hz⟩ := I.tuple hs
  rw [Vals.ref1 r]
  refine PySem.call_sum_walkAnyS (PySem.W.iter_tupleW (A := X.A.in1) (I.ok.hd hc) ht fun s₂ e W st hfp hw hk => ?_)
  refine ⟨_, _, _, _, _, _, _, fun i => ns.getD i 0, rfl, W, st, hfp, fun i v hv => ?_, fun s' t' m => ?_⟩
  · have hl := rv.length
    rw [List.length_map] at hl
    have hi : i < ns.length := by
      have := (Array.getElem?_eq_some_iff.mp hv).1
      simp at this; omega
    obtain ⟨u, hu, ru⟩ := rv.get (i := i) (x := .int ns[i]) (by simp [hi])
    have : some u = some v := by rw [← hu]; simpa using hv
    cases this
    obtain ⟨t, rfl⟩ := ru
    exact ⟨t, by simp [List.getD_eq_getElem?_getD, hi]⟩
  · obtain ⟨h', tk, rfl, hk'⟩ := PySem.W.moved_old e rfl m
    have e2 : preSum (fun i => ns.getD i 0) its.toArray.size = ns.sum := by
      rw [preSum_take]
      have hl := rv.length
      rw [List.length_map] at hl
      simp [← hl]
    exact ⟨.int _, H, I.kept hk', ⟨t', by rw [e2]⟩, q⟩
end
theorem CallR.or {X : Cx} {f : Value} {r r' : List V → Hp → VK → Prop} (h : CallR X f r) (h' : CallR X f r') : CallR X f (fun vs H Q => r vs H Q ∨ r' vs H Q) := fun pins s σ H xs us Q I rv w => w.elim (h pins s σ H xs us Q I rv) (h' pins s σ H xs us Q I rv)
theorem OpV.or {K : PySem.W.Frag} {mg : Str → Option Value} {r r' : List V → Hp → VK → Prop} {g g' : Sto → List D → Option D} (h : OpV K mg r g) (h' : OpV K mg r' g') : OpV K mg (fun vs H Q => r vs H Q ∨ r' vs H Q) (fun s ds => match g s ds with
  | some d => some d
  | none => g' s ds) := fun ρ s H ds vs a f d w rp sp e Q q => by
  dsimp only at e
  cases e1 : g s ds with
  | some d' => rw [e1] at e; cases e; exact .inl (h ρ s H ds vs a f _ w rp sp e1 Q q)
  | none => rw [e1] at e; exact .inr (h' ρ s H ds vs a f d w rp sp e Q q)
def gMaxT : Sto → List D → Option D := fun _ ds => match ds with
  | [.tup xs] => match toInts xs with
    | some (n :: ns) => some (.int (ns.foldl max n))
    | _ => none
  | _ => none
def gSumT : Sto → List D → Option D := fun _ ds => match ds with
  | [.tup xs] => (toInts xs).map fun ns => .int ns.sum
  | _ => none
section
variable {K : PySem.W.Frag} {mg : Str → Option Value}
theorem inv_tupI {H : Hp} {ρ : List Addr} {xs : List D} {ns : List Int} {v : V} {a f : Cnt} (e : toInts xs = some ns) (r : Rep K mg H ρ (.tup xs) v a f) : ∃ p, v = .ref p ∧ SqT K H p (ns.map V.int) := by
  obtain ⟨p, vs, rfl, h, t⟩ := inv_tup r
  have := toInts_eq e
  subst this
  rw [Reps.ints t] at h
  exact ⟨p, rfl, SqT.of h⟩
theorem v_maxT : OpV K mg (rMaxT K) gMaxT := by
  intro ρ s H ds vs a f d w r h e Q q
  unfold Zm.gMaxT at e
  split at e
  · split at e
    · rename_i n ns e1
      cases e
      obtain ⟨v1, rfl, r1⟩ := r.inv1
      obtain ⟨p, rfl, hq⟩ := inv_tupI e1 r1
      exact ⟨p, n, ns, rfl, hq, fin_int q⟩
    · cases e
  · cases e
theorem v_sumT : OpV K mg (rSumT K) gSumT := by
  intro ρ s H ds vs a f d w r h e Q q
  unfold Zm.gSumT at e
  split at e
  · rw [Option.map_eq_some_iff] at e
    obtain ⟨ns, e1, rfl⟩ := e
    obtain ⟨v1, rfl, r1⟩ := r.inv1
    obtain ⟨p, rfl, hq⟩ := inv_tupI e1 r1
    exact ⟨p, ns, rfl, hq, fin_int q⟩
  · cases e
end
def gMaxA : Sto → List D → Option D := fun s ds => match gMaxL s ds with
  | some d => some d
  | none => gMaxT s ds
def gSumA : Sto → List D → Option D := fun s ds => match gSum s ds with
  | some d => some d
  | none => gSumT s ds
/-! ### a, b = x, y -/
section
variable {K : PySem.W.Frag} {mg : Str → Option Value} {W : WX} {H H' H1 : Hp} {ρ ρ' ρ1 : List Addr} {σm : Env} {σ : L2.St} {s s' s1 : Sto} {d e : D} {v u : V} {A F A' F' A1 F1 a f Mc : Cnt} {D : Ends} {i j : Nat} {ms : List M} {msk : List Bool}
end
section
variable {X : Cx} {W : WX} {a b : Expr} {ms : List M} {pos px py pt : Pos} {x y : Str} {kt k2 : Nat} {pt2 : Pos}
end
end Zm
set_option Elab.async false
set_option linter.all false
set_option maxRecDepth 100000
set_option autoImplicit false
/-! Z16: many names from one value; types as values. -/
namespace Zm
open PySem PySem.Spec PyProof.Rows L2
def mUnp (msk : List Bool) (tg : Tg) (m : M) : MS := fun σ s => (m (restr msk σ) s).to σ fun d s' => match tg.bind (fz d) (frzE msk σ) with
  | some σ' => .nx σ' s'
  | none => .bad
section
variable {K : PySem.W.Frag} {mg : Str → Option Value} {W : WX} {H : Hp} {σ : L2.St} {D : Ends} {msk : List Bool} {tg : Tg} {m : M}
theorem unp_end (h : rS K mg W (mUnp msk tg m) D σ H) : rE K mg W m σ H fun x H1 => rG K mg tg x σ H1 D.nx := by
  obtain ⟨σm, s, ρ, A, F, rel, h⟩ := h
  refine rEF_of_to rel h fun d s1 v H1 ρ1 a f Am Fm Ar F2 fr wd rp g r2 q h => ?_
  split at h
  · rename_i σ1 hb
    obtain ⟨f', rp', qf⟩ := rp.fz
    have ev := rel.env.there
    have key : ∀ x, 1 ≤ f' x → 1 ≤ Am x ∨ 1 ≤ Fm x ∨ H x = none := fun x h => by
      have := qf x h
      obtain ⟨g1, g2, g3⟩ := g x
      by_cases z : 1 ≤ a x
      · exact .inr (.inr (g2 z).2)
      · exact g3 (by omega)
    refine ⟨frzE msk σm, s1, ρ1, Ar, F2, fz d, f', ⟨r2.frame fr fun _ hx => no0 hx, wd, fun x => ?_⟩, rp', fun x z => ?_, σ1, hb, fun σ' A' F' rel' le ch => h σ' H1 ρ1 A' F' fr.up rel' fun x => ?_⟩
    · have s0 := rel.sep x
      have q0 := q x
      refine ⟨by omega, fun z => ?_⟩
      have := s0.2 (by omega)
      by_cases w : 1 ≤ F2 x
      · have := q0.2.2 w; omega
      · omega
    · have s0 := rel.sep x
      have q0 := q x
      by_cases y : 1 ≤ Ar x
      · have := s0.2 (by omega)
        rcases key x z with w | w | w
        · omega
        · omega
        · obtain ⟨⟨o, ho⟩, _⟩ := ev x (by omega)
          rw [w] at ho; cases ho
      · omega
    · have q0 := q x
      have l := le x
      refine ⟨fun y => .inl (by omega), fun y => ?_⟩
      rcases l.2 y with w | w
      · rcases q0.2.2 w with u | u
        · exact .inr (.inl u)
        · exact .inl (by omega)
      · rcases key x w with u | u | u
        · exact .inl (by omega)
        · exact .inr (.inl (by omega))
        · exact .inr (.inr u)
  · exact h.elim
end
section
variable {X : Cx} {W : WX} {e tge : Expr} {m : M} {tg : Tg} {pos : Pos}
theorem s_ty {x : Str} {T : String} {pos : Pos} (hm : X.mg x = none) (hb : bootBuiltins x = some (.type T)) (hg : Gl X x := by rfl) (hn : x ≠ "__name__" := by decide) (hd : (x == ("__debug__" : Str)) = false := by decide) : SE X W (.Name x pos) (mC (.ty T)) :=
  PE.imp (pe_bltn (v := .ty T) hg hm hb rfl hn hd) fun σ H Q h => rE_c (fun _ _ => .ty (fun _ => rfl) (fun _ => rfl)) h
end
end Zm
namespace Zm
open PySem PySem.Spec PyProof.Rows L2
section
variable {X : Cx} {W : WX} {tge iter elt : Expr} {ifs : List Expr} {src : Src} {tg : Tg} {t : T} {m : M} {pos py spos : Pos} {scope : Scope} {own : List (Str × Nat)} {y : Str}
end
end Zm
set_option Elab.async false
set_option linter.all false
set_option maxRecDepth 100000
set_option autoImplicit false
/-! Z17: the law's def, as the end wants it. -/
namespace Zm
open PySem PySem.Spec PyProof.Rows L2
section
variable {P : Program} {w : World} {K : PySem.W.Frag} {mg : Str → Option Value} {base : Heap}
theorem fnG_mk {x qual : Str} {st : Stmt} {f : Addr} {fd : FuncData} {N ps : List Str} {k np ns : Nat} {body : MS} (F : Fun K x qual st f fd) (S : FnScope N ps (defScope st))
    (h : ∀ (cdv : Value) (A : Around) (out : List PySem.Env) (s : Shared) (H : Hp) (E : XK), Room k (A.deeper (envOfC qual (defScope st) s.heap.objs.size f cdv)) → A.guards = some [] →
      SSs (cxG P w K mg base N qual (defScope st) f cdv A out s H E) (fun cls dd _ H => E cls dd H) (defBody st) body)
    (hN : N.length = ns := by rfl) (hps : ps.length = np := by rfl) (hnp : np ≤ ns := by decide) : FnG P w K mg base (k + 1) f fd ps (spF K mg (mkFn np ns body)) := by
  obtain ⟨oc, od, kV, doc, pm, an, cdv, ct, osl, rfl, lk, hcd⟩ := F.ex
  exact fnG_of lk hcd S (fun vs H Q E q => by rw [spF_len mkFn_ar q, hps]) fun A out s H vs Q E hr hg q => ⟨_, h cdv A out s H E hr hg, body_of hN hnp q⟩
end
end Zm
set_option Elab.async false
set_option linter.all false
set_option maxRecDepth 100000
set_option autoImplicit false
/-! Z18: xs[::-1] of lists and tuples. -/
namespace Zm
open PySem PySem.Spec PyProof.Rows L2 HT
section
variable {prog : Program} {w : World} {A : Around} {E : Value → Shared → Prop} {s : Shared}
theorem places_rev (n : Nat) : Builtin.Slice.slicePlaces ((n : Int) - 1) (-1) (-1) = n := by
  unfold Builtin.Slice.slicePlaces
  rw [if_neg (by decide)]
  show (if (n : Int) - 1 > -1 then ((n : Int) - 1 - -1 - 1) / (- -1) + 1 else 0).toNat = n
  rw [show (- -1 : Int) = 1 from rfl, Int.ediv_one]
  split <;> omega
theorem applied_rev {sl : Addr} {vl vu vs : Value} {n : Nat} {Q : Int × Int × Nat → Shared → Prop} (hs : s.heap.IsSliceOf sl vl vu vs) (pl : IsPart vl none) (pu : IsPart vu none) (ps : IsPart vs (some (-1))) (h : Q ((n : Int) - 1, -1, n) s) :
    wpAny (model prog w) A (Builtin.Slice.sliceApplied (.ref sl) (pure (n : Int))) Q E s := by
  obtain ⟨o, ho, hc, hd⟩ := id hs
  unfold Builtin.Slice.sliceApplied Builtin.Slice.sliceFields
  refine wpAny_bind (wpAny_bind (wpAny_field ho hd (x := vl) rfl (wpAny_bind (wpAny_field ho hd (x := vu) rfl (wpAny_bind (wpAny_field ho hd (x := vs) rfl (wpAny_pure ?_)))))))
  refine wpAny_bind (slicePart_ ps ?_)
  show wpAny (model prog w) A (if ((-1 : Int) == 0) = true then _ else _) _ _ s
  rw [if_neg (by decide)]
  refine wpAny_bind (slicePart_ pl (wpAny_bind (slicePart_ pu (wpAny_bind (wpAny_pure ?_)))))
  show wpAny (model prog w) A (pure ((n : Int) - 1, (-1 : Int), Builtin.Slice.slicePlaces ((n : Int) - 1) (-1) (-1))) _ _ s
  rw [places_rev]
  exact wpAny_pure h
theorem pick_rev (xs : Array Value) : ((List.range xs.size).filterMap fun (k : Nat) => xs[((xs.size : Int) - 1 + (k : Int) * -1).toNat]?).toArray = xs.toList.reverse.toArray := by
  congr 1
  have e : ∀ k ∈ List.range xs.size, xs[((xs.size : Int) - 1 + (k : Int) * -1).toNat]? = xs.toList.reverse[k]? := fun k hk => by
    have hk : k < xs.size := List.mem_range.mp hk
    rw [show ((xs.size : Int) - 1 + (k : Int) * -1).toNat = xs.size - 1 - k by omega, List.getElem?_reverse (by simpa using hk)]
    simp
  have f : ∀ l : List Nat, (∀ k ∈ l, xs[((xs.size : Int) - 1 + (k : Int) * -1).toNat]? = xs.toList.reverse[k]?) → l.filterMap (fun (k : Nat) => xs[((xs.size : Int) - 1 + (k : Int) * -1).toNat]?) = l.filterMap fun k => xs.toList.reverse[k]? := fun l h => by
    induction l with
    | nil => rfl
    | cons k l ih => rw [List.filterMap_cons, List.filterMap_cons, h k (by simp), ih fun j hj => h j (by simp [hj])]
  rw [f _ e]
  have := PySem.W.krv_all xs.toList.reverse.toArray
  simpa using this
theorem get_tup_rev {t sl : Addr} {items : Array Value} {vl vu vs : Value} {Q : Value → Shared → Prop} (ht : IsTup s.heap t items) (hs : s.heap.IsSliceOf sl vl vu vs) (pl : IsPart vl none) (pu : IsPart vu none) (ps : IsPart vs (some (-1)))
    (h : Q (.ref s.heap.objs.size) { s with heap := s.heap.push { cls := .type "tuple", data := .seq items.toList.reverse.toArray } }) (hsz : items.size ≤ sizeLine) : wpAny (model prog w) A (getItem (.ref t) (.ref sl)) Q E s := by
  have hk : sizeOk (.seq items.toList.reverse.toArray) := by
    show items.toList.reverse.toArray.size ≤ sizeLine
    simpa using hsz
  obtain ⟨os, ho, hc, hd⟩ := id hs
  have ty : s.TypeIs (.ref sl) "slice" := ⟨os, ho, hc⟩
  unfold getItem
  try with_reducible refine wpAny_holding ?_
  first | refine wpAny_bind (wpAny_pure ?_) | skip
  refine wpAny_bind (wpAny_sequenceKey ht.typeIs (by decide) (wpAny_bind (wpAny_callSpecial?_slot (name := Str.ofString "__getitem__") ht.typeIs PyProof.Rows.slot_tuple_getitem (wpAny_call_entry PyProof.Rows.slot_tuple_getitem ht.typeIs entry_tuple_getitem ?_ (args_tuple_getitem _ _)))))
  show wpAny (model prog w) _ (Builtin.Tuple.tupleItemsOf (.ref t) >>= _) _ _ s
  refine wpAny_bind (tupleItemsOf_ ht (wpAny_bind (wpAny_typeOf ty ?_)))
  rw [if_pos (by decide)]
  refine wpAny_bind (applied_rev hs pl pu ps ?_)
  have no : ¬ (((items.size : Int) - 1 == 0 && (-1 : Int) == 1 && items.size == items.size) = true) := by
    intro q
    rw [Bool.and_eq_true, Bool.and_eq_true] at q
    exact absurd q.1.2 (by decide)
  show wpAny (model prog w) _ (if ((items.size : Int) - 1 == 0 && (-1 : Int) == 1 && items.size == items.size) = true then _ else _) _ _ s
  rw [if_neg no, pick_rev]
  first
    | exact wpAny_bind (m := Builtin.Tuple.tupleExact _) (wpAny_newObj_type (wpAny_pure ⟨_, rfl, wpAny_pure h⟩) hk)
    | exact wpAny_bind (wpAny_bind (m := Builtin.Tuple.tupleExact _) (wpAny_newObj_type (wpAny_pure (wpAny_pure ⟨_, rfl, wpAny_pure h⟩)) hk))
    | exact wpAny_bind (wpAny_bind (m := Builtin.Tuple.tupleExact _) (wpAny_newObj_type (wpAny_pure ⟨_, rfl, wpAny_pure h⟩) hk))
end
def tRevA (K : PySem.W.Frag) (te : TE) : TE := fun σ H Q => te σ H fun x H1 => ∃ a xs, x = .ref a ∧ ((SqL K H1 a xs ∧ ∀ p, H1 p = none → Q (.ref p) (upd H1 p (.lst xs.reverse))) ∨ (SqT K H1 a xs ∧ ∀ p, H1 p = none → Q (.ref p) (upd H1 p (.tup xs.reverse))))
section
variable {X : Cx}
theorem pe_revA {e : Expr} {te : TE} {k : Nat} {p1 p2 p3 pos : Pos} (he : PE X e te) : PE X (.Subscript e (.Slice none none (some (.UnaryOp .USub (.Constant (.int 1) k p1) p2)) p3) pos) (tRevA X.K te) := by
  refine ⟨fun pins s σ H Q I h => Subscript_ (thn (he.run pins s σ H _ I h) fun v s1 ⟨x, H1, I1, r1, a, xs, ex, q⟩ => ?_)⟩
  subst ex
  cases r1
  have st : PO X (some (.UnaryOp .USub (.Constant (.int 1) k p1) p2)) (tPart (tUn (rU fun i => .int (-i)) (tC (.int 1)))) := po_some (pe_un un_neg pe_int)
  refine wpAny_Slice (thn (po_none.run pins s1 σ H1 (fun o H2 => o = none ∧ H2 = H1) I1 ⟨rfl, rfl⟩) fun vl s2 ⟨l, H2, I2, pl, e1, e2⟩ => ?_)
  subst e1 e2
  refine thn (po_none.run pins s2 σ H2 (fun o H3 => o = none ∧ H3 = H2) I2 ⟨rfl, rfl⟩) fun vu s3 ⟨u, H3, I3, pu, e3, e4⟩ => ?_
  subst e3 e4
  refine thn (st.run pins s3 σ H3 (fun o H4 => o = some (-1) ∧ H4 = H3) I3 ⟨1, rfl, -1, rfl, rfl, rfl⟩) fun vs s4 ⟨o, H4, I4, ps, e5, e6⟩ => ?_
  subst e5 e6
  have I5 : Inv X pins σ H4 { s4 with heap := s4.heap.push { cls := .type "slice", data := .fields #[vl, vu, vs] } } := I4.kept (t' := s4.toks) fun b ob q => Heap.get?_push_of_some _ q
  show wpAny (model X.prog X.w) X.A (subscriptTail e (.Slice none none (some (.UnaryOp .USub (.Constant (.int 1) k p1) p2)) p3) (.ref a) (.ref s4.heap.objs.size)) (EP X pins σ Q) X.xe { s4 with heap := s4.heap.push { cls := .type "slice", data := .fields #[vl, vu, vs] } }
  rcases q with ⟨hx, q⟩ | ⟨hx, q⟩
  · obtain ⟨its, r, ht, hz⟩ := I5.list hx
    have hlen := r.length
    refine tail_any (ops := [.ref a, .ref s4.heap.objs.size]) ht.isList.typeIs (PySem.slot_list_getitem.lookup) ?_ (by with_unfolding_all rfl)
    refine wpAny_getItem_list_slice ht.isList (Heap.IsSliceOf.new _ vl vu vs) pl pu ps (by decide) ?_ (by rw [List.size_toArray]; omega)
    rw [PySem.W.krv_pick]
    exact ⟨.ref _, _, I5.laid (t' := s4.toks) (o := .lst xs.reverse) (fun b ob q => Heap.get?_push_of_some _ q) (Nat.le_refl _) ⟨by rw [List.length_reverse]; exact hz, _, 0, r.reverse, Heap.get?_push_size _ rfl⟩, rfl, q _ (I5.hok.fresh (Nat.le_refl _))⟩
  · obtain ⟨its, r, ht, hz⟩ := I5.tuple hx
    have hlen := r.length
    refine tail_any (ops := [.ref a, .ref s4.heap.objs.size]) ht.typeIs (PyProof.Rows.slot_tuple_getitem.lookup) ?_ (by with_unfolding_all rfl)
    refine get_tup_rev ht (Heap.IsSliceOf.new _ vl vu vs) pl pu ps ?_ (by rw [List.size_toArray]; omega)
    exact ⟨.ref _, _, I5.laid (t' := s4.toks) (o := .tup xs.reverse) (fun b ob q => Heap.get?_push_of_some _ q) (Nat.le_refl _) ⟨by rw [List.length_reverse]; exact hz, _, r.reverse, ⟨_, Heap.get?_push_size _ rfl, rfl, 0, rfl⟩⟩, rfl, q _ (I5.hok.fresh (Nat.le_refl _))⟩
end
def gRevS : Sto → List D → Option D := fun s ds => match ds with
  | [.lst _ xs] => some (.lst true xs.reverse)
  | [.tup xs] => some (.tup xs.reverse)
  | [.ro ns] => some (.lst true (ns.reverse.map .int))
  | _ => none
theorem v_revS {K : PySem.W.Frag} {mg : Str → Option Value} : OpV K mg (fun vs H Q => ∃ a xs, vs = [V.ref a] ∧ ((SqL K H a xs ∧ ∀ p, H p = none → Q (.ref p) (upd H p (.lst xs.reverse))) ∨ (SqT K H a xs ∧ ∀ p, H p = none → Q (.ref p) (upd H p (.tup xs.reverse))))) gRevS := by
  intro ρ s H ds vs a f d w r h e Q q
  unfold gRevS at e
  split at e
  · cases e
    obtain ⟨v1, rfl, r1⟩ := r.inv1
    obtain ⟨p1, vs1, b1, g1, rfl, h1, t1, l1⟩ := inv_lst r1
    refine ⟨p1, vs1, rfl, .inl ⟨SqL.of h1, fun p hp => ?_⟩⟩
    obtain ⟨n1, n2⟩ := new_lst w hp t1.reverse (h.le l1)
    exact q _ _ _ _ (same_upd hp) n1 (n2.le l1)
  · cases e
    obtain ⟨v1, rfl, r1⟩ := r.inv1
    obtain ⟨p1, vs1, rfl, h1, t1⟩ := inv_tup r1
    exact ⟨p1, vs1, rfl, .inr ⟨SqT.of h1, fun p hp => q _ _ _ _ (same_upd hp) (new_tup hp t1.reverse) (.refl h)⟩⟩
  · cases e
    obtain ⟨v1, rfl, r1⟩ := r.inv1
    cases r1 with
    | ro hq _ _ =>
      refine ⟨_, _, rfl, .inl ⟨hq.L, fun p hp => ?_⟩⟩
      rw [← List.map_reverse]
      obtain ⟨n1, n2⟩ := new_lst w hp (reps_ints _) (fun x => ⟨Nat.zero_le _, fun z => no0 z⟩)
      exact q _ _ _ _ (same_upd hp) n1 (n2.le fun x => ⟨Nat.zero_le _, Nat.zero_le _⟩)
  · cases e
theorem s_rev {X : Cx} {W : WX} {e : Expr} {m : M} {k : Nat} {p1 p2 p3 pos : Pos} (he : SE X W e m) : SE X W (.Subscript e (.Slice none none (some (.UnaryOp .USub (.Constant (.int 1) k p1) p2)) p3) pos) (mOp gRevS [m]) :=
  PE.imp (pe_revA he) fun σ H Q h => rE_mono (rA_1 (rA_op v_revS h)) fun v H1 ⟨a, xs, e, z⟩ => by cases e; exact ⟨a, xs, rfl, z⟩
end Zm
set_option Elab.async false
set_option linter.all false
set_option maxRecDepth 100000
set_option autoImplicit false
/-! Z19: name op= e of numbers. -/
namespace Zm
open PySem PySem.Spec PyProof.Rows L2
def mAug (f : Int → Int → Int) (i : Nat) (m : M) : MS := fun σ s => match σ[i]? with
  | some (some (.int x)) => (m σ s).to σ fun d s' => match d with
    | .int y => .nx (σ.set i (some (.int (f x y)))) s'
    | _ => .bad
  | _ => .bad
section
variable {K : PySem.W.Frag} {mg : Str → Option Value} {W : WX} {σ : L2.St} {H : Hp} {D : Ends} {i : Nat} {m : M} {f : Int → Int → Int}
theorem aug_end (h : rS K mg W (mAug f i m) D σ H) : tAug i (rE K mg W m) (ipI f) D σ H := by
  obtain ⟨σm, s, ρ, A, F, rel, h⟩ := h
  unfold mAug at h
  split at h
  · rename_i x hx
    obtain ⟨v, a0, f0, e1, rp0, _⟩ := rel.env.get hx
    cases inv_int rp0
    refine ⟨_, e1, rE_of_to rel h fun d s1 v H1 ρ1 a fc fr wd rp g h => ?_⟩
    split at h
    · cases inv_int rp
      obtain ⟨A', F', rel', n⟩ := rel.set (d := .int (f x _)) fr wd (.int (fun _ => rfl) (fun _ => rfl) : Rep K mg H1 ρ1 (.int (f x _)) (.int (f x _)) c0 c0) (.zero (fun _ => rfl) (fun _ => rfl)) (fun _ => rfl) i (List.getElem?_eq_some_iff.mp hx).1
      exact ⟨_, _, rfl, rfl, h _ _ _ _ _ fr.up rel' n⟩
    · exact h.elim
  · exact h.elim
end
section
variable {X : Cx} {W : WX} {e : Expr} {m : M} {x : Str} {pos pos' : Pos}
theorem ss_augAdd (i : Nat) (nd : X.N.Nodup) (he : SE X W e m) (hi : X.N[i]? = some x := by rfl) (hx : Loc X.env.scope x := by first | exact .inl rfl | exact .inr rfl)
    (hf : X.fn x = true ∨ X.env.scope.names.lookup x = some .local := by first | exact .inl rfl | exact .inr rfl) : SS X W (.AugAssign (.Name x pos') .Add e pos) (mAug (fun a b => a + b) i m) :=
  PS.imp (ps_aug nd hi hx he ip_add hf) fun D σ H h => aug_end h
theorem ss_augSub (i : Nat) (nd : X.N.Nodup) (he : SE X W e m) (hi : X.N[i]? = some x := by rfl) (hx : Loc X.env.scope x := by first | exact .inl rfl | exact .inr rfl)
    (hf : X.fn x = true ∨ X.env.scope.names.lookup x = some .local := by first | exact .inl rfl | exact .inr rfl) : SS X W (.AugAssign (.Name x pos') .Sub e pos) (mAug (fun a b => a - b) i m) :=
  PS.imp (ps_aug nd hi hx he ip_sub hf) fun D σ H h => aug_end h
end
end Zm
set_option Elab.async false
set_option linter.all false
set_option maxRecDepth 100000
set_option maxHeartbeats 4000000
set_option autoImplicit false
/-! Z20: a tuple times one; x in a list of data. -/
namespace Zm
open PySem PySem.Spec PyProof.Rows L2
theorem mul_one_t (l : Addr) (items : Array Value) (n : Nat) (dd : Option Addr) (sl : Array (Option Value)) (u : Tok) :
    Meets (Builtin.«tuple.__mul__» ⟨[.ref l, .int 1 u], []⟩) (fun _ R s => s.heap.get? l = some { cls := .type "tuple", dict := dd, data := .seq items n, slots := sl } ∧ R (.ok (.ret (Value.ref l))) s) :=
  .of_wp fun prog w A R s h => by
    obtain ⟨hp, g, d, tk, os⟩ := s
    obtain ⟨hl, h⟩ := h
    have f1 := AutoSeq1.idx_int
    have c0 : (decide ((1 : Int) < -(2 ^ 63)) || decide ((1 : Int) ≥ 2 ^ 63)) = false := by decide
    have c1 : (items.isEmpty || (1 : Int) == 1) = true := by rw [show ((1 : Int) == 1) = true from rfl, Bool.or_true]
    wp_walk using wpAny_loadPart' hl
    repeat (first
      | (refine wpAny_ite_false (decide_eq_false (by rw [c0]; exact Bool.false_ne_true)) ?_; wp_walk using wpAny_loadPart' hl)
      | (refine wpAny_ite_true (decide_eq_true c1) ?_; wp_walk using wpAny_loadPart' hl))
    exact ⟨_, rfl, h⟩
def rRep1 (K : PySem.W.Frag) : R2 := fun x y H Q => ∃ l xs, x = .ref l ∧ y = .int 1 ∧ SqT K H l xs ∧ Q (.ref l) H
theorem op_rep1 {X : Cx} : OpR X (binaryOp .Mult) (rRep1 X.K) := by
  intro pins s σ H x y v u Q I rx ry h
  obtain ⟨l, xs, rfl, rfl, hT, q⟩ := h
  cases rx
  obtain ⟨t, rfl⟩ := ry
  obtain ⟨its, r, ⟨⟨cls, dd, data, sl⟩, ho, hc, n, hd⟩, hs⟩ := I.tuple hT
  simp only at hc hd
  subst hc hd
  exact wpAny_binaryOp_repeat_ref (T := "tuple") (U := "int") (by decide) ⟨_, ho, rfl⟩ (fun s' => typeIs_int s' 1 t) noFill_tuple_mul F.fills_int_mul F.slot_int_rmul repeat_tuple F.slot_int_index.lookup
    (call_meets F.slot_int_rmul (typeIs_int s 1 t) F.entry_int_rmul (F.args_int_rmul_2 _ _) (int_rmul_tuple 1 t l its.toArray n dd sl) ⟨ho, rfl, ⟨_, ho, rfl⟩, call_meets F.slot_tuple_mul ⟨_, ho, rfl⟩ F.entry_tuple_mul (F.args_tuple_mul_2 _ _) (mul_one_t l its.toArray n dd sl t) ⟨ho, ⟨.ref l, H, I, rfl, q⟩⟩⟩)
def gMulT : Sto → List D → Option D := fun s ds => match ds with
  | [.tup xs, .int k] => if k = 1 then some (.tup xs) else gMul s ds
  | _ => gMul s ds
theorem o_mulT {X : Cx} : OpR X (binaryOp .Mult) (fun x y H Q => rRep1 X.K x y H Q ∨ rMulZ X.K x y H Q) := fun pins s σ H x y v u Q I rx ry h => h.elim (op_rep1 pins s σ H x y v u Q I rx ry) (o_mul pins s σ H x y v u Q I rx ry)
theorem v_mulT {K : PySem.W.Frag} {mg : Str → Option Value} : OpV K mg (r2 (fun x y H Q => rRep1 K x y H Q ∨ rMulZ K x y H Q)) gMulT := by
  intro ρ s H ds vs a f d w r h e Q q
  have old : gMul s ds = some d → r2 (fun x y H Q => rRep1 K x y H Q ∨ rMulZ K x y H Q) vs H Q := fun e => by
    obtain ⟨x, y, e1, z⟩ := v_mul ρ s H ds vs a f d w r h e Q q
    exact ⟨x, y, e1, .inr z⟩
  unfold gMulT at e
  split at e
  · split at e
    · rename_i xs k hk
      subst hk
      cases e
      obtain ⟨v1, v2, a1, f1, a2, f2, rfl, r1, r2, eq⟩ := r.inv2
      cases inv_int r2
      obtain ⟨p1, vs1, rfl, h1, t1⟩ := inv_tup r1
      have le : ∀ x, a1 x ≤ a x ∧ f1 x ≤ f x := fun x => by have := eq x; omega
      exact ⟨_, _, rfl, .inl ⟨p1, vs1, rfl, rfl, SqT.of h1, q _ H _ _ (fun _ _ h => h) (.tup h1 t1) ((Out.refl (h.le le)).le le)⟩⟩
    · exact old e
  · exact old e
end Zm
set_option Elab.async false
set_option linter.all false
set_option maxRecDepth 100000
set_option autoImplicit false
/-! Z21: calls of defs by keywords alone. -/
namespace Zm
open PySem PySem.Spec PyProof.Rows L2
def sw {α : Type} : Nat → List α → List α
  | 0, a :: b :: t => b :: a :: t
  | n + 1, a :: t => a :: sw n t
  | _, l => l
def sws {α : Type} : List Nat → List α → List α
  | [], l => l
  | n :: p, l => sws p (sw n l)
section
variable {K : PySem.W.Frag} {mg : Str → Option Value} {H : Hp} {ρ : List Addr}
theorem Reps.sw : ∀ {n : Nat} {ds : List D} {vs : List V} {a f : Cnt}, Reps K mg H ρ ds vs a f → Reps K mg H ρ (sw n ds) (sw n vs) a f
  | 0, _, _, _, _, .nil h1 h2 => .nil h1 h2
  | 0, _, _, _, _, .cons r (.nil h1 h2) e1 e2 => .cons r (.nil h1 h2) e1 e2
  | 0, _, _, a, f, .cons (a := a1) (f := f1) (a' := a2) (f' := f2) r (.cons (a := a3) (f := f3) (a' := a4) (f' := f4) r2 t g1 g2) e1 e2 => by
    refine .cons r2 (.cons (A := fun x => a1 x + a4 x) (F := fun x => f1 x + f4 x) r t (fun _ => rfl) fun _ => rfl) ?_ ?_
    · intro x; rw [e1, g1]; omega
    · intro x; rw [e2, g2]; omega
  | n + 1, _, _, _, _, .nil h1 h2 => .nil h1 h2
  | n + 1, _, _, _, _, .cons r t e1 e2 => .cons r (Reps.sw (n := n) t) e1 e2
theorem Reps.sws : ∀ {p : List Nat} {ds : List D} {vs : List V} {a f : Cnt}, Reps K mg H ρ ds vs a f → Reps K mg H ρ (sws p ds) (sws p vs) a f
  | [], _, _, _, _, h => h
  | _ :: p, _, _, _, _, h => Reps.sws (p := p) h.sw
end
/-- a def of the text keeps its machine's promise, called by keywords ks, in the order that p puts right -/
structure FnK (P : Program) (w : World) (K : PySem.W.Frag) (mg : Str → Option Value) (base : Heap) (k : Nat) (x : Str) (ps ks : List Str) (p : List Nat) (m : Fn) : Prop where
  ex : ∃ f fd, mg x = some (.ref f) ∧ PySem.W.keepIn K (.ref f) = true ∧ (∀ (s : Shared) (ws : List Value), ws.length = ps.length → BindsTo s fd ⟨[], ks.zip ws⟩ (ps.zip (sws p ws))) ∧ FnG P w K mg base k f fd ps (spF K mg m)
@[simp] def mCallK (f : Fn) (p : List Nat) (ms : List M) : M := fun σ s => (mArgs ms σ s).bind fun ds s1 => f (sws p ds) s1
section
variable {K : PySem.W.Frag} {mg : Str → Option Value} {W : WX} {σ : L2.St} {H : Hp}
end
section
variable {X : Cx} {k : Nat} {f : Addr} {fd : FuncData} {ps ks : List Str} {sp : Sp} {E : L2.St → XK} {q : List Nat} {t : TA} {kws : List Keyword} {x : Str} {p pos : Pos}
end
section
variable {X : Cx} {W : WX} {e : Expr} {m : M} {ms : List M} {kws : List Keyword} {nm : Option Str} {kpos : Pos} {k : Nat} {x : Str} {ps ks : List Str} {q : List Nat} {fn : Fn} {p pos : Pos}
theorem PK.imp {t t' : TA} (h : PK X kws t) (i : ∀ σ H Q, t' σ H Q → t σ H Q) : PK X kws t' := ⟨fun pos pins s σ H Q I q => h.run pos pins s σ H Q I (i σ H Q q)⟩
end
end Zm
set_option Elab.async false
set_option linter.all false
set_option maxRecDepth 100000
set_option autoImplicit false
/-! Z22: dicts: made, read, written. -/
namespace Zm
open PySem PySem.Spec PyProof.Rows L2
def dK : D → Option Key
  | .int i => some (.inl i)
  | .str z => some (.inr z)
  | _ => none
def dKs : List D → Option (List Key)
  | [] => some []
  | x :: xs => match dK x, dKs xs with
    | some a, some b => some (a :: b)
    | _, _ => none
def dKT : D → Option (List Key)
  | .tup xs => dKs xs
  | _ => none
section
variable {κ : Type} [DecidableEq κ]
def lookG (o : D → Option κ) : List D → List D → κ → Option D
  | k :: ks, v :: vs, q => if o k = some q then some v else lookG o ks vs q
  | _, _, _ => none
def replG (o : D → Option κ) : List D → List D → κ → D → List D
  | k :: ks, w :: vs, q, v => (if o k = some q then v else w) :: replG o ks vs q v
  | _, vs, _, _ => vs
def putG (o : D → Option κ) (ks vs : List D) (kd : D) (q : κ) (v : D) : List D × List D :=
  if (lookG o ks vs q).isSome = true then (ks, replG o ks vs q v) else (ks ++ [kd], vs ++ [v])
end
def gLook (t : Bool) (ks vs : List D) (k : D) : Option (Option D) := match t with
  | false => (dK k).map (lookG dK ks vs)
  | true => (dKT k).map (lookG dKT ks vs)
def gPut (t : Bool) (ks vs : List D) (k v : D) : Option (List D × List D) := match t with
  | false => (dK k).map fun q => putG dK ks vs k q v
  | true => (dKT k).map fun q => putG dKT ks vs k q v
section
variable {K : PySem.W.Frag} {mg : Str → Option Value} {H H1 : Hp} {ρ : List Addr} {κ : Type} [DecidableEq κ] {o : D → Option κ} {to : κ → D}
theorem Reps.z2 {d : D} {ds : List D} {v : V} {vs : List V} (h : Reps K mg H ρ (d :: ds) (v :: vs) c0 c0) : Rep K mg H ρ d v c0 c0 ∧ Reps K mg H ρ ds vs c0 c0 := by
  cases h with
  | cons r t e1 e2 =>
    exact ⟨r.cong (fun x => by have := e1 x; have z : c0 x = 0 := rfl; omega) (fun x => by have := e2 x; have z : c0 x = 0 := rfl; omega),
      t.cong (fun x => by have := e1 x; have z : c0 x = 0 := rfl; omega) (fun x => by have := e2 x; have z : c0 x = 0 := rfl; omega)⟩
theorem Reps.c2 {d : D} {ds : List D} {v : V} {vs : List V} (r : Rep K mg H ρ d v c0 c0) (t : Reps K mg H ρ ds vs c0 c0) : Reps K mg H ρ (d :: ds) (v :: vs) c0 c0 := .cons r t (fun _ => rfl) (fun _ => rfl)
theorem inv_dic {t o : Bool} {ks vs : List D} {v : V} {a f : Cnt} (h : Rep K mg H ρ (.dic o t ks vs) v a f) : ∃ p ws, v = .ref p ∧ DicRd H t p ks ws ∧ plains vs = true ∧ Reps K mg H ρ vs ws c0 c0 := by
  cases h with
  | dicO h hp pl t e1 e2 => exact ⟨_, _, rfl, h.rd, pl, t⟩
  | dicF h hp pl t e1 e2 => exact ⟨_, _, rfl, h, pl, t⟩
end
/-! ### expressions -/
def mDic (t : Bool) : M := fun _ s => .ok (.dic true t [] []) s
section
variable {K : PySem.W.Frag} {mg : Str → Option Value}
end
section
variable {X : Cx} {W : WX} {e f o i : Expr} {me mf mo mi : M} {pos apos cpos : Pos}
theorem s_dicK : SE X W (.Dict [] [] pos) (mDic false) := PE.imp pe_dnewK fun σ H Q ⟨σm, s, ρ, A, F, rel, h⟩ p hp =>
  h (.ref p) _ ρ (cp p) c0 (Fr.of_same (same_upd hp)) (rel.wd.same (same_upd hp)) (.dicO ⟨_, upd_same, [], rfl, rfl, rfl⟩ (fun z => by obtain ⟨l, q⟩ := rel.wd.lst z; rw [hp] at q; cases q) rfl (.nil (fun _ => rfl) (fun _ => rfl)) (fun _ => rfl) (fun _ => rfl)) fun x => by
    refine ⟨by unfold cp; split <;> omega, fun z => ⟨rfl, ?_⟩, fun z => no0 z⟩
    by_cases e : x = p
    · subst e; exact hp
    · rw [cp_ne e] at z; omega
end
end Zm
set_option Elab.async false
set_option linter.all false
set_option maxRecDepth 100000
set_option autoImplicit false
/-! Z23: dicts written; walked by their keys. -/
namespace Zm
open PySem PySem.Spec PyProof.Rows L2
section
variable {X : Cx} {W : WX} {i o : Expr} {mi mo : M} {pos : Pos}
end
/-! ### d[k] = e -/
section
variable {K : PySem.W.Frag} {mg : Str → Option Value} {W : WX} {H H' H1 : Hp} {ρ ρ' ρ1 : List Addr} {σm : Env} {σ : L2.St} {s s' s1 : Sto} {A F : Cnt}
end
section
variable {X : Cx} {W : WX} {e ei : Expr} {m mi : M} {pos pos' spos : Pos} {x : Str}
end
/-! ### for k in d -/
def Dc (u : HO) : Prop := (∃ kvs, u = .dK kvs) ∨ ∃ kvs, u = .dT kvs
theorem DicV.dc {t : Bool} {ks : List D} {ws : List V} {u : HO} (h : DicV t ks ws u) : Dc u := by
  cases t with
  | false => obtain ⟨kvs, rfl, _⟩ := h; exact .inl ⟨_, rfl⟩
  | true => obtain ⟨kvs, rfl, _⟩ := h; exact .inr ⟨_, rfl⟩
section
variable {K : PySem.W.Frag} {mg : Str → Option Value} {H : Hp} {ρ : List Addr} {p : Addr} {u : HO} {od : Obj}
theorem lock_at (hu : H p = some u) (mu : Dc u) {x : Addr} {o : HO} (e : H x = some o) (h : ¬ Dc o) : upd H p (.frz od u) x = some o := by
  rw [upd_ne]
  · exact e
  · intro z
    subst z
    rw [hu] at e
    cases e
    exact h mu
theorem unlock_at (hu : H p = some (.frz od u)) {x : Addr} {o : HO} (e : H x = some o) (h : ∀ o' u', Dc u' → o ≠ .frz o' u') (mu : Dc u) : upd H p u x = some o := by
  rw [upd_ne]
  · exact e
  · intro z
    subst z
    rw [hu] at e
    cases e
    exact h _ _ mu rfl
theorem rdU_lock (hu : H p = some u) (mu : Dc u) {x : Addr} {v : HO} (h : Rd H x v) : Rd (upd H p (.frz od u)) x v := by
  by_cases z : x = p
  · subst z
    rcases h with e | ⟨o, e⟩
    · rw [hu] at e; cases e
      exact .inr ⟨od, upd_same⟩
    · rw [hu] at e; cases e
      rcases mu with ⟨_, z⟩ | ⟨_, z⟩ <;> cases z
  · rcases h with e | ⟨o, e⟩
    · exact .inl (by rw [upd_ne z]; exact e)
    · exact .inr ⟨o, by rw [upd_ne z]; exact e⟩
theorem rdU_unlock (hu : H p = some (.frz od u)) {x : Addr} {v : HO} (h : Rd H x v) (dv : Dc v) : Rd (upd H p u) x v := by
  by_cases z : x = p
  · subst z
    rcases h with e | ⟨o, e⟩
    · rw [hu] at e; cases e
      rcases dv with ⟨_, z⟩ | ⟨_, z⟩ <;> cases z
    · rw [hu] at e; cases e
      exact .inl upd_same
  · rcases h with e | ⟨o, e⟩
    · exact .inl (by rw [upd_ne z]; exact e)
    · exact .inr ⟨o, by rw [upd_ne z]; exact e⟩
theorem sqR_lock (hu : H p = some u) (mu : Dc u) {x : Addr} {vs : List V} (h : SqR K H x vs) : SqR K (upd H p (.frz od u)) x vs := by
  rcases h with ⟨o, e⟩ | e
  · exact .inl ⟨o, lock_at hu mu e (fun z => by rcases z with ⟨_, z⟩ | ⟨_, z⟩ <;> cases z)⟩
  · exact .inr e
theorem sqR_unlock (hu : H p = some (.frz od u)) (mu : Dc u) {x : Addr} {vs : List V} (h : SqR K H x vs) : SqR K (upd H p u) x vs := by
  rcases h with ⟨o, e⟩ | e
  · exact .inl ⟨o, unlock_at hu e (fun o' u' d z => by cases z; rcases d with ⟨_, z⟩ | ⟨_, z⟩ <;> cases z) mu⟩
  · exact .inr e
theorem xc_lock {c : Str} {m : Option Int} {q : Addr} (hu : H p = some u) (mu : Dc u) (h : XcAt mg H c m q) : XcAt mg (upd H p (.frz od u)) c m q := by
  cases m with
  | some a => exact h
  | none =>
    obtain ⟨C, e1, e2⟩ := h
    exact ⟨C, e1, lock_at hu mu e2 (fun z => by rcases z with ⟨_, z⟩ | ⟨_, z⟩ <;> cases z)⟩
theorem xc_unlock {c : Str} {m : Option Int} {q : Addr} (hu : H p = some (.frz od u)) (mu : Dc u) (h : XcAt mg H c m q) : XcAt mg (upd H p u) c m q := by
  cases m with
  | some a => exact h
  | none =>
    obtain ⟨C, e1, e2⟩ := h
    exact ⟨C, e1, unlock_at hu e2 (fun _ _ _ z => by cases z) mu⟩
mutual
theorem Rep.lock (hu : H p = some u) (mu : Dc u) : ∀ {d : D} {v : V} {A F : Cnt}, Rep K mg H ρ d v A F → A p = 0 → Rep K mg (upd H p (.frz od u)) ρ d v A F
  | _, _, _, _, .non a f, _ => .non a f
  | _, _, _, _, .bl a f, _ => .bl a f
  | _, _, _, _, .int a f, _ => .int a f
  | _, _, _, _, .str a f, _ => .str a f
  | _, _, _, _, .tup h t, hA => .tup (lock_at hu mu h (fun z => by rcases z with ⟨_, z⟩ | ⟨_, z⟩ <;> cases z)) (Reps.lock hu mu t hA)
  | _, _, _, _, .own h hp t e, hA => .own (lock_at hu mu h (fun z => by rcases z with ⟨_, z⟩ | ⟨_, z⟩ <;> cases z)) hp (Reps.lock hu mu t (by have := e p; omega)) e
  | _, _, _, _, .frz h hp t e, hA => .frz (lock_at hu mu h (fun z => by rcases z with ⟨_, z⟩ | ⟨_, z⟩ <;> cases z)) hp (Reps.lock hu mu t hA) e
  | _, _, _, _, .ro h a f, _ => .ro (sqR_lock hu mu h) a f
  | _, _, _, _, .box h a f, _ => .box h a f
  | _, _, _, _, .fn h k a f, _ => .fn h k a f
  | _, _, _, _, .ty a f, _ => .ty a f
  | _, _, _, _, .exc h a f, _ => .exc (xc_lock hu mu h) a f
  | _, _, _, _, .dicO (p := q) h hp pl t e1 e2, hA => .dicO (by
      obtain ⟨w, hw, dv⟩ := h
      refine ⟨w, ?_, dv⟩
      rw [upd_ne]
      · exact hw
      · intro z
        subst z
        have := e1 q
        rw [cp_same] at this
        omega) hp pl (Reps.lock hu mu t rfl) e1 e2
  | _, _, _, _, .dicF h hp pl t e1 e2, hA => .dicF (let ⟨w, hw, dv⟩ := h; ⟨w, rdU_lock hu mu hw, dv⟩) hp pl (Reps.lock hu mu t rfl) e1 e2
theorem Reps.lock (hu : H p = some u) (mu : Dc u) : ∀ {d : List D} {v : List V} {A F : Cnt}, Reps K mg H ρ d v A F → A p = 0 → Reps K mg (upd H p (.frz od u)) ρ d v A F
  | _, _, _, _, .nil a f, _ => .nil a f
  | _, _, _, _, .cons h t e1 e2, hA => .cons (Rep.lock hu mu h (by have := e1 p; omega)) (Reps.lock hu mu t (by have := e1 p; omega)) e1 e2
end
mutual
theorem Rep.unlock (hu : H p = some (.frz od u)) (mu : Dc u) : ∀ {d : D} {v : V} {A F : Cnt}, Rep K mg H ρ d v A F → Rep K mg (upd H p u) ρ d v A F
  | _, _, _, _, .non a f => .non a f
  | _, _, _, _, .bl a f => .bl a f
  | _, _, _, _, .int a f => .int a f
  | _, _, _, _, .str a f => .str a f
  | _, _, _, _, .tup h t => .tup (unlock_at hu h (fun _ _ _ z => by cases z) mu) (Reps.unlock hu mu t)
  | _, _, _, _, .own h hp t e => .own (unlock_at hu h (fun _ _ _ z => by cases z) mu) hp (Reps.unlock hu mu t) e
  | _, _, _, _, .frz h hp t e => .frz (unlock_at hu h (fun _ _ _ z => by cases z) mu) hp (Reps.unlock hu mu t) e
  | _, _, _, _, .ro h a f => .ro (sqR_unlock hu mu h) a f
  | _, _, _, _, .box h a f => .box h a f
  | _, _, _, _, .fn h k a f => .fn h k a f
  | _, _, _, _, .ty a f => .ty a f
  | _, _, _, _, .exc h a f => .exc (xc_unlock hu mu h) a f
  | _, _, _, _, .dicO (p := q) h hp pl t e1 e2 => .dicO (by
      obtain ⟨w, hw, dv⟩ := h
      refine ⟨w, unlock_at hu hw (fun _ _ _ z => ?_) mu, dv⟩
      rcases dv.dc with ⟨_, e⟩ | ⟨_, e⟩ <;> rw [e] at z <;> cases z) hp pl (Reps.unlock hu mu t) e1 e2
  | _, _, _, _, .dicF h hp pl t e1 e2 => .dicF (let ⟨w, hw, dv⟩ := h; ⟨w, rdU_unlock hu hw dv.dc, dv⟩) hp pl (Reps.unlock hu mu t) e1 e2
theorem Reps.unlock (hu : H p = some (.frz od u)) (mu : Dc u) : ∀ {d : List D} {v : List V} {A F : Cnt}, Reps K mg H ρ d v A F → Reps K mg (upd H p u) ρ d v A F
  | _, _, _, _, .nil a f => .nil a f
  | _, _, _, _, .cons h t e1 e2 => .cons (Rep.unlock hu mu h) (Reps.unlock hu mu t) e1 e2
end
end
section
variable {K : PySem.W.Frag} {mg : Str → Option Value} {H H' : Hp} {ρ ρ' : List Addr} {p : Addr} {u : HO} {od : Obj} {A F A0 F0 : Cnt}
end
section
variable {X : Cx} {W : WX} {tge : Expr} {tg : Tg} {body : MS} {ss : List Stmt} {pos pos' : Pos} {x : Str}
end
end Zm
set_option Elab.async false
set_option linter.all false
set_option maxRecDepth 100000
set_option autoImplicit false
/-! Z24: int(..), xs.index(..), xs[i] op= e, defs that call themselves. -/
namespace Zm
open PySem PySem.Spec PyProof.Rows L2
def idxOf (k : Int) : List Int → Option Nat
  | [] => none
  | x :: xs => if x = k then some 0 else (idxOf k xs).map (· + 1)
def toI : List D → Option (List Int)
  | [] => some []
  | .int i :: ds => (toI ds).map (i :: ·)
  | _ :: _ => none
def mIndex (mo me : M) : M := fun σ s => (mo σ s).bind fun d s1 => match d with
  | .lst _ xs => (mArgs [me] σ s1).bind fun ds s2 => match toI xs, ds with
    | some ns, [.int k] => R.of ((idxOf k ns).map fun j => .int (j : Nat)) s2
    | _, _ => .bad
  | _ => .bad
section
variable {K : PySem.W.Frag} {mg : Str → Option Value}
variable {H : Hp} {ρ : List Addr}
theorem toI_rel : ∀ {ds : List D} {vs : List V} {ns : List Int} {a f : Cnt}, Reps K mg H ρ ds vs a f → toI ds = some ns → vs = ns.map V.int
  | [], _, _, _, _, h, e => by
    simp only [toI, Option.some.injEq] at e
    subst e; cases h; rfl
  | d :: ds, _, _, _, _, .cons r t _ _, e => by
    cases d <;> simp only [toI, reduceCtorEq] at e
    obtain ⟨ns', e1, rfl⟩ := Option.map_eq_some_iff.mp e
    cases r
    rw [toI_rel t e1]; rfl
theorem idxOf_is {k : Int} : ∀ {ns : List Int} {j : Nat}, idxOf k ns = some j → ns[j]? = some k ∧ ∀ m, m < j → ns[m]? ≠ some k
  | [], _, e => by simp [idxOf] at e
  | x :: xs, j, e => by
    rw [idxOf] at e
    by_cases h : x = k
    · rw [if_pos h] at e; cases e
      exact ⟨by simp [h], fun m hm => by omega⟩
    · rw [if_neg h] at e
      obtain ⟨j', e1, rfl⟩ := Option.map_eq_some_iff.mp e
      obtain ⟨q1, q2⟩ := idxOf_is e1
      refine ⟨by simpa using q1, fun m hm => ?_⟩
      cases m with
      | zero => simpa using h
      | succ m => simpa using q2 m (by omega)
end
section
variable {X : Cx} {W : WX} {o e : Expr} {mo me : M} {apos cpos : Pos}
theorem s_index (ho : SE X W o mo) (he : SE X W e me) (hst : starEach [e] X.env = [(false, eval e X.env)] := by rfl) (hbase : attributeBase o "index" X.env (eval o X.env) = eval o X.env := by rfl) (hline : (apos.endLine == cpos.line) = true := by rfl)
    (hfew : ((backTo cpos (starEach [e] X.env)).all (fun x => !x.1) && (backToKw cpos (keywordEach [] X.env)).all (fun x => x.1.isSome)
      && decide (([e] : List Expr).length + ([] : List Keyword).length + (if ([] : List Keyword).isEmpty then 0 else 1) < 30)) = true := by rfl) :
    SE X W (.Call (.Attribute o "index" apos) [e] [] cpos) (mIndex mo me) :=
  PE.imp (pe_bm (T := "list") F.plainAttrs_list F.slot_list_index F.type_list_index mt_index ho (sa_cons he sa_nil hst) hbase hfew hline hst rfl) fun σ H Q ⟨σm, s, ρ, A, F, rel, h⟩ => by
    refine ⟨σm, s, ρ, A, F, rel, ?_⟩
    unfold mIndex at h
    cases e1 : mo σm s with
    | bad => rw [e1] at h; exact h
    | ex x s1 => rw [e1] at h; exact h
    | ok d s1 =>
      rw [e1, Zm.R.bind_ok] at h
      intro v H1 ρ1 a f fr wd rp g
      cases d <;> first | exact h.elim | skip
      rename_i o xs
      obtain ⟨p, vs, a1, f1, rfl, hp, rv, _⟩ := inv_lst rp
      have rel1 := rel.next fr wd
      refine ⟨.inl ⟨rfl, vs, .inl (.inl hp)⟩, σm, s1, ρ1, A, F, rel1, ?_⟩
      have h : oE X.K X.mg W σ A F H ρ Q ((mArgs [me] σm s1).bind fun ds s2 => match toI xs, ds with
        | some ns, [.int k] => R.of ((idxOf k ns).map fun j => .int (j : Nat)) s2
        | _, _ => .bad) := h
      cases e2 : mArgs [me] σm s1 with
      | bad => rw [e2] at h; exact h
      | ex x s2 =>
        rw [e2] at h
        exact fun cls dd H' ρ' fr' wd' rx => h cls dd H' ρ' (fr.tr fr') wd' rx
      | ok ds s2 =>
        rw [e2, Zm.R.bind_ok] at h
        intro us H2 ρ2 a2 f2 fr2 wd2 rp2 g2
        split at h
        · rename_i ns k ei
          obtain ⟨v1, rfl, q1⟩ := rp2.inv1
          cases inv_int q1
          cases e3 : idxOf k ns with
          | none => rw [e3] at h; exact h.elim
          | some j =>
            rw [e3] at h
            obtain ⟨i1, i2⟩ := idxOf_is e3
            have hv := toI_rel rv ei
            obtain ⟨p2, vs2, _, _, ep, hp2, rv2, _⟩ := inv_lst (rp.on fr2)
            cases ep
            have hv2 := toI_rel rv2 ei
            refine ⟨p, vs2, _, j, .int k, rfl, rfl, .inl (.inl hp2), rfl, ?_, ?_, by simp [eqV], fun m z hm hz => ?_, ?_⟩
            · rw [hv2]; simp [flatV]
            · rw [hv2, List.getElem?_map, i1]; rfl
            · rw [hv2, List.getElem?_map] at hz
              obtain ⟨y, ey, rfl⟩ := Option.map_eq_some_iff.mp hz
              have := i2 m hm
              rw [ey] at this
              simpa [eqV] using this
            · exact h (.int j) H2 ρ2 c0 c0 (fr.tr fr2) wd2 (.int (fun _ => rfl) (fun _ => rfl)) (.zero (fun _ => rfl) (fun _ => rfl))
        · exact h.elim
end
/-! ### xs[i] op= e -/
def mAugI (f : Int → Int → Int) (i : Nat) (mi m : M) : MS := fun σ s => match σ[i]? with
  | some (some (.lst true xs)) => (mi σ s).to σ fun k s1 => match k with
    | .int k => if 0 ≤ k then (match xs[k.toNat]? with
      | some (.int x) => (m σ s1).to σ fun d s2 => match d with
        | .int y => .nx (σ.set i (some (.lst true (xs.set k.toNat (.int (f x y)))))) s2
        | _ => .bad
      | _ => .bad) else .bad
    | _ => .bad
  | _ => .bad
def tgL : V → V → Hp → VK → Prop := fun o i H Q => ∃ p vs k x, o = .ref p ∧ i = .int k ∧ 0 ≤ k ∧ H p = some (.lst vs) ∧ vs[k.toNat]? = some x ∧ Q x H
theorem get_list {X : Cx} : PGet X tgL := by
  intro pins s σ H o i ov iv Q I ro ri ⟨p, vs, k, x, eo, ei, h0, hp, hx, q⟩
  subst eo ei
  cases ro
  obtain ⟨t, rfl⟩ := ri
  obtain ⟨its, r, pl, hz⟩ := I.list (.inl (.inl hp))
  obtain ⟨w, ew, rw'⟩ := r.get hx
  have hl : k.toNat < vs.length := (List.getElem?_eq_some_iff.mp hx).1
  have hn := line63
  exact PySem.wpAny_getItem_list pl.isList h0 (by omega) (by simpa using ew) ⟨x, H, I, rw', q⟩
section
variable {K : PySem.W.Frag} {mg : Str → Option Value} {W : WX} {σ : L2.St} {H : Hp} {D : Ends} {i : Nat} {mi m : M} {f : Int → Int → Int}
theorem augI_end (h : rS K mg W (mAugI f i mi m) D σ H) : tAugS (tVar i) (rE K mg W mi) (rE K mg W m) tgL (ipI f) rSetL D σ H := by
  obtain ⟨σm, s, ρ, A, F, rel, h⟩ := h
  unfold mAugI at h
  split at h
  · rename_i xs hσ
    obtain ⟨p, vs, a1, f1, A2, F2, e1, hp, r0, q, wr⟩ := rel.wr hσ
    refine ⟨_, e1, rE_of_to rel h fun d s1 v H1 ρ1 a fc fr wd rp g h => ?_⟩
    split at h
    · rename_i k
      cases inv_int rp
      split at h
      · rename_i hk
        split at h
        · rename_i x hx
          obtain ⟨w, aw, fw, ew, rw', _⟩ := (r0.on fr).at hx
          cases inv_int rw'
          have hp1 : H1 p = some (.lst vs) := (wr H1 ρ1 s1 xs vs a1 f1 fr wd (r0.on fr) fun x => by
            have := q x; have s0 := rel.sep x
            exact ⟨by omega, fun z => by have := s0.2 (by omega); omega⟩).1
          refine ⟨p, vs, k, _, rfl, rfl, hk, hp1, ew, ?_⟩
          refine ⟨σm, s1, ρ1, A, F, rel.next fr wd, ?_⟩
          cases e2 : m σm s1 with
          | bad => rw [e2] at h; exact h
          | ex z s2 =>
            rw [e2] at h
            exact fun cls dd H' ρ' fr' wd' rx => h cls dd σ H' ρ' A F (fr.tr fr').up (rel.next (fr.tr fr') wd') .refl rx
          | ok d s2 =>
          rw [e2] at h
          intro v H2 ρ2 a' fc' fr2 wd2 rp2 g2
          simp only [R.to_ok] at h
          split at h
          · rename_i y
            cases inv_int rp2
            have fr02 := fr.tr fr2
            obtain ⟨w, a0, f0, z1, z2, A', F', z3, z4⟩ := (r0.on fr02).set (e := .int (f x y)) (v := .int (f x y)) (a := c0) (f := c0) hx (.int (fun _ => rfl) (fun _ => rfl))
            have z0 : ∀ x, c0 x = 0 := fun _ => rfl
            obtain ⟨hp2, h2, h3⟩ := wr H2 ρ2 s2 _ _ A' F' fr02 wd2 z3 fun x => by
              have := q x; have s0 := rel.sep x; have := z4 x; have := z0 x
              exact ⟨by omega, fun z => by have := s0.2 (by omega); omega⟩
            have hl : k.toNat < vs.length := (List.getElem?_eq_some_iff.mp ew).1
            refine ⟨_, _, rfl, rfl, p, vs, k, k.toNat, rfl, rfl, hp2, by unfold ixN; rw [if_pos hk, if_pos (by omega)], ?_⟩
            refine h _ _ _ _ _ h2 h3 fun x => ?_
            have := q x; have := z4 x; have := z0 x
            exact ⟨fun z => .inl (by omega), fun z => .inr (.inl (by omega))⟩
          · exact h.elim
        · exact h.elim
      · exact h.elim
    · exact h.elim
  · exact h.elim
end
section
variable {X : Cx} {W : WX} {e ei : Expr} {m mi : M} {x : Str} {pos pos' tpos : Pos}
theorem ss_augIAdd (i : Nat) (hi : SE X W ei mi) (he : SE X W e m) (hN : X.N[i]? = some x := by rfl) (hvis : Vis X.env.scope x := by first | exact Or.inl rfl | exact Or.inr (Or.inl rfl) | exact Or.inr (Or.inr rfl)) (hd : (x == ("__debug__" : Str)) = false := by decide)
    (hcd : (x == ("__classdict__" : Str)) = false := by decide)
    (ha : ∀ ov iv new, augStore ei ov iv new = (do holding [new, ov, iv] (setItem ov iv new); release [new, ov, iv] []; pure .next) := by intros; rfl) : SS X W (.AugAssign (.Subscript (.Name x pos') ei tpos) .Add e pos) (mAugI (fun a b => a + b) i mi m) :=
  PS.imp (ps_augS (pe_var hN hvis hd hcd) hi get_list he ip_add set_list ha) fun D σ H h => augI_end h
theorem ss_augISub (i : Nat) (hi : SE X W ei mi) (he : SE X W e m) (hN : X.N[i]? = some x := by rfl) (hvis : Vis X.env.scope x := by first | exact Or.inl rfl | exact Or.inr (Or.inl rfl) | exact Or.inr (Or.inr rfl)) (hd : (x == ("__debug__" : Str)) = false := by decide)
    (hcd : (x == ("__classdict__" : Str)) = false := by decide)
    (ha : ∀ ov iv new, augStore ei ov iv new = (do holding [new, ov, iv] (setItem ov iv new); release [new, ov, iv] []; pure .next) := by intros; rfl) : SS X W (.AugAssign (.Subscript (.Name x pos') ei tpos) .Sub e pos) (mAugI (fun a b => a - b) i mi m) :=
  PS.imp (ps_augS (pe_var hN hvis hd hcd) hi get_list he ip_sub set_list ha) fun D σ H h => augI_end h
end
/-! ### defs that call themselves -/
def badF : Fn := fun _ _ => .bad
end Zm
set_option Elab.async false
set_option linter.all false
set_option maxRecDepth 100000
set_option autoImplicit false
/-! Z25: == and != of dicts whose keys are tuples. -/
namespace Dq
open PySem PySem.W PySem.Calls PyProof.Rows PyProof.V PySem.Spec
section
variable {prog : Program} {w : World} {K : Type} [DecidableEq K] {knd : HeapKind prog w K} {A : Around} {E : Value → Shared → Prop} {s : Shared}
inductive Hits (A : Around) (s : Shared) (kb : List (K × Addr × Value)) : List (K × Addr × Value) → Bool → Prop
  | nil : Hits A s kb [] true
  | miss {k : K} {p : Addr × Value} {r : List (K × Addr × Value)} : atKey kb k = none → Hits A s kb ((k, p) :: r) false
  | hit {k : K} {p q : Addr × Value} {r : List (K × Addr × Value)} {e b : Bool} : atKey kb k = some q → SeqAt.EqAt A s p.2 q.2 e → Hits A s kb r b → Hits A s kb ((k, p) :: r) (e && b)
end
end Dq
namespace Zm
open PySem PySem.Spec PyProof.Rows L2
section
variable {X : Cx}
end
section
variable {K : PySem.W.Frag} {mg : Str → Option Value} {H : Hp} {ρ : List Addr}
end
end Zm
set_option Elab.async false
set_option linter.all false
set_option maxRecDepth 100000
set_option autoImplicit false
/-! Z26: many names from one value that holds no frozen list: nothing is frozen. -/
namespace Zm
open PySem PySem.Spec PyProof.Rows L2
def mUnpN (tg : Tg) (m : M) : MS := fun σ s => (m σ s).to σ fun d s' => if noF d = true then (match tg.bind (fz d) σ with
  | some σ' => .nx σ' s'
  | none => .bad) else .bad
def mUnpD (msk : List Bool) (tg : Tg) (m : M) : MS := fun σ s => (m σ s).to σ fun d s' => if noF d = true then (match tg.bind (fz d) σ with
  | some σ' => .nx σ' s'
  | none => .bad) else mUnp msk tg m σ s
theorem unpD_or {msk : List Bool} {tg : Tg} {m : M} (σ : Env) (s : Sto) : mUnpD msk tg m σ s = mUnpN tg m σ s ∨ mUnpD msk tg m σ s = mUnp msk tg m σ s := by
  unfold mUnpD mUnpN
  cases m σ s with
  | bad => exact .inl rfl
  | ex x s1 => exact .inl rfl
  | ok d s1 =>
    simp only [R.to_ok]
    by_cases z : noF d = true
    · left; simp [z]
    · right; simp [z]
section
variable {K : PySem.W.Frag} {mg : Str → Option Value} {W : WX} {H : Hp} {σ : L2.St} {D : Ends} {msk : List Bool} {tg : Tg} {m : M}
theorem unpN_end (h : rS K mg W (mUnpN tg m) D σ H) : rE K mg W m σ H fun x H1 => rG K mg tg x σ H1 D.nx := by
  obtain ⟨σm, s, ρ, A, F, rel, h⟩ := h
  refine rE_of_to rel h fun d s1 v H1 ρ1 a f fr wd rp g h => ?_
  split at h
  · rename_i hn
    split at h
    · rename_i σ1 hb
      obtain ⟨f', rp', qf⟩ := rp.fz
      have f0 := rp.noF hn
      have ev := rel.env.there
      have key : ∀ x, 1 ≤ f' x → H x = none := fun x h => by
        have := qf x h
        have z := f0 x
        exact ((g x).2.1 (by omega)).2
      refine ⟨σm, s1, ρ1, A, F, fz d, f', rel.next fr wd, rp', fun x z => ?_, σ1, hb, fun σ' A' F' rel' le ch => h σ' H1 ρ1 A' F' fr.up rel' fun x => ?_⟩
      · by_cases w : 1 ≤ A x
        · obtain ⟨⟨o, ho⟩, _⟩ := ev x (by omega)
          rw [key x z] at ho; cases ho
        · omega
      · have l := le x
        refine ⟨fun y => .inl (by omega), fun y => ?_⟩
        rcases l.2 y with w | w
        · exact .inr (.inl w)
        · exact .inr (.inr (key x w))
    · exact h.elim
  · exact h.elim
end
section
variable {X : Cx} {W : WX} {e tge : Expr} {m : M} {tg : Tg} {pos : Pos}
theorem ss_unpD (msk : List Bool) (he : SE X W e m) (hg : SG X tge tg) (hs : swapsWithSole [tge] e pos.line X.env = pure false := by rfl) (hw : swappedStores [tge] e X.env = pure none := by rfl)
    (h1 : (assignEach [tge] X.env).map (·.2) = [assign tge X.env] := by rfl) : SS X W (.Assign [tge] e pos) (mUnpD msk tg m) :=
  PS.imp (ps_asg he hg hs hw h1) fun D σ H h => rS_or h unpD_or unpN_end unp_end
end
end Zm
set_option Elab.async false
set_option linter.all false
set_option maxRecDepth 100000
set_option autoImplicit false
/-! Z27: x = y[k] if t else e: only what lies within y is frozen; lists within lists written. -/
namespace Zm
open PySem PySem.Spec PyProof.Rows L2
section
variable {K : PySem.W.Frag} {mg : Str → Option Value} {W : WX} {H H' H1 : Hp} {ρ ρ' ρ1 : List Addr} {σm : Env} {σ : L2.St} {s s' s1 : Sto} {A F : Cnt}
end
section
variable {K : PySem.W.Frag} {mg : Str → Option Value} {W : WX} {H : Hp} {σ : L2.St} {D : Ends} {i j : Nat} {mi m2 : M} {t : T} {msk : List Bool}
end
section
variable {X : Cx} {W : WX} {c e2 ei : Expr} {t : T} {mi m2 : M} {pos pos' ipos py p2 : Pos} {x y : Str}
end
end Zm
set_option Elab.async false
set_option linter.all false
set_option maxRecDepth 100000
set_option autoImplicit false
/-! Z28: lists within an owned list written: x[j][k] = e, x[j].append(e). -/
namespace Zm
open PySem PySem.Spec PyProof.Rows L2
section
variable {K : PySem.W.Frag} {mg : Str → Option Value} {W : WX} {H H' H1 : Hp} {ρ ρ' ρ1 : List Addr} {σm : Env} {σ : L2.St} {s s' s1 : Sto} {A F : Cnt}
theorem Reps.move {ar fr : Cnt} (T : ∀ d v a f, Rep K mg H ρ d v a f → (∀ x, a x ≤ ar x ∧ f x ≤ fr x) → Rep K mg H' ρ' d v a f) : ∀ {ds : List D} {vs : List V} {A F : Cnt}, Reps K mg H ρ ds vs A F → (∀ x, A x ≤ ar x ∧ F x ≤ fr x) → Reps K mg H' ρ' ds vs A F
  | _, _, _, _, .nil a f, _ => .nil a f
  | _, _, _, _, .cons h t e1 e2, le => .cons (T _ _ _ _ h fun x => by have := le x; rw [e1, e2] at this; omega) (Reps.move T t fun x => by have := le x; rw [e1, e2] at this; omega) e1 e2
end
section
variable {K : PySem.W.Frag} {mg : Str → Option Value} {W : WX} {H : Hp} {σ : L2.St} {Ds : Ends} {i : Nat} {mj mk m : M} {r : Addr → List V → Hp → Hp → Prop} {g : UG}
end
section
variable {X : Cx} {W : WX} {e ei ej ek : Expr} {m mj mk : M} {pos pos' ipos spos apos cpos : Pos} {x : Str}
end
end Zm
set_option Elab.async false
set_option linter.all false
set_option maxRecDepth 100000
set_option autoImplicit false
/-! Z29: for x in xs: x.append(..), x.reverse(), loops of the same kind within: the lists within an owned list are written. -/
namespace Zm
open PySem PySem.Spec PyProof.Rows L2
inductive UP where
  | app (m : M)
  | rev
  | seq (a b : UP)
  | each (u : UP)
section
variable {K : PySem.W.Frag} {mg : Str → Option Value} {W : WX} {H H' H1 : Hp} {ρ ρ' ρ1 : List Addr} {σm : Env} {σ : L2.St} {s s' s1 : Sto} {A F : Cnt}
/-- a slot forgotten -/
theorem EnvR.drop : ∀ {σm : Env} {σ : L2.St} {A F : Cnt} (j : Nat), EnvR K mg H ρ σm σ A F → ∃ A' F', EnvR K mg H ρ (σm.set j none) σ A' F' ∧ ∀ x, A' x ≤ A x ∧ F' x ≤ F x
  | _, _, _, _, j, .nil a f => ⟨_, _, .nil a f, fun x => ⟨Nat.le_refl _, Nat.le_refl _⟩⟩
  | _, _, _, _, 0, .no t => ⟨_, _, .no t, fun x => ⟨Nat.le_refl _, Nat.le_refl _⟩⟩
  | _, _, _, _, j + 1, .no t => by
    obtain ⟨A', F', e, l⟩ := EnvR.drop j t
    exact ⟨A', F', .no e, l⟩
  | _, _, _, _, 0, .yes h t e1 e2 => ⟨_, _, .no t, fun x => by rw [e1, e2]; omega⟩
  | _, _, _, _, j + 1, .yes h t e1 e2 => by
    obtain ⟨A', F', e, l⟩ := EnvR.drop j t
    exact ⟨_, _, .yes h e (fun _ => rfl) (fun _ => rfl), fun x => by have := l x; rw [e1, e2]; omega⟩
end
theorem Chg.refl {ss : List Nat} {σ : L2.St} : Chg ss σ σ := ⟨rfl, fun _ _ => rfl⟩
theorem Chg.tr {ss : List Nat} {σ σ' σ'' : L2.St} (a : Chg ss σ σ') (b : Chg ss σ' σ'') : Chg ss σ σ'' := ⟨b.1.trans a.1, fun j hj => (b.2 j hj).trans (a.2 j hj)⟩
section
variable {K : PySem.W.Frag} {mg : Str → Option Value} {W : WX} {H : Hp} {σ : L2.St} {Ds : Ends} {j : Nat} {vs : List Nat}
end
section
variable {X : Cx} {W : WX} {e : Expr} {m : M} {u ub : UP} {st : Stmt} {sts ss : List Stmt} {j j' : Nat} {vs : List Nat} {pos pos' apos cpos epos : Pos} {x y : Str}
end
end Zm
set_option Elab.async false
set_option linter.all false
set_option maxRecDepth 100000
set_option autoImplicit false
/-! Z30: defs as values, called; a dict of one pair; sorted keys; list(range(..)). -/
namespace Zm
open PySem PySem.Spec PyProof.Rows L2
/-- the defs that may be called -/
inductive FT (P : Program) (w : World) (K : PySem.W.Frag) (mg : Str → Option Value) (base : Heap) (k : Nat) : List (Str × Fn) → Prop
  | nil : FT P w K mg base k []
  | cons {x : Str} {ps : List Str} {m : Fn} {r : List (Str × Fn)} : FnM P w K mg base k x ps m → FT P w K mg base k r → FT P w K mg base k ((x, m) :: r)
def ftLook : List (Str × Fn) → Str → Option Fn
  | [], _ => none
  | p :: r, x => if p.1 = x then some p.2 else ftLook r x
theorem FT.look {P : Program} {w : World} {K : PySem.W.Frag} {mg : Str → Option Value} {base : Heap} {k : Nat} {tbl : List (Str × Fn)} (h : FT P w K mg base k tbl) {x : Str} {m : Fn} : ftLook tbl x = some m → ∃ ps, FnM P w K mg base k x ps m := by
  induction h with
  | nil => intro e; cases e
  | @cons y ps m' r F _ ih =>
    intro e
    unfold ftLook at e
    split at e
    · rename_i z
      cases e
      dsimp only at z
      subst z
      exact ⟨ps, F⟩
    · exact ih e
def mCallE (tbl : List (Str × Fn)) (mf : M) (ms : List M) : M := fun σ s => (mf σ s).bind fun d s1 => match d with
  | .fn x => match ftLook tbl x with
    | some m => (mArgs ms σ s1).bind m
    | none => .bad
  | _ => .bad
section
variable {K : PySem.W.Frag} {mg : Str → Option Value} {W : WX} {σ : L2.St} {H : Hp} {Q : VK} {tbl : List (Str × Fn)} {mf : M} {ms : List M}
theorem rE_callE (h : rE K mg W (mCallE tbl mf ms) σ H Q) : rE K mg W mf σ H fun y H1 => ∃ x f m, y = .ref f ∧ mg x = some (.ref f) ∧ PySem.W.keepIn K (.ref f) = true ∧ ftLook tbl x = some m ∧ rA K mg W (mArgs ms) σ H1 fun vs H2 => spF K mg m vs H2 Q (WE W σ) := by
  obtain ⟨σm, s, ρ, A, F, rel, h⟩ := h
  refine ⟨σm, s, ρ, A, F, rel, ?_⟩
  unfold mCallE at h
  cases e : mf σm s with
  | bad => rw [e] at h; exact h
  | ex x s1 => rw [e] at h; exact h
  | ok d s1 =>
    rw [e, Zm.R.bind_ok] at h
    intro v H1 ρ1 a f fr wd rp g
    split at h
    · rename_i x
      split at h
      · rename_i m hl
        cases rp with
        | fn hm hk _ _ => exact ⟨x, _, m, rfl, hm, hk, hl, rE_call (fn := m) (ms := ms) ⟨σm, s1, ρ1, A, F, rel.next fr wd, oE.step fr h⟩⟩
      · exact h.elim
    · exact h.elim
end
section
variable {X : Cx} {W : WX} {fe e : Expr} {es : List Expr} {mf : M} {ms : List M} {k i : Nat} {x : Str} {ps : List Str} {m : Fn} {tbl : List (Str × Fn)} {p pos : Pos}
theorem s_fnM (F : FnM X.prog X.w X.K X.mg X.base k x ps m) (hg : Gl X x := by rfl) (hd : (x == ("__debug__" : Str)) = false := by decide) : SE X W (.Name x p) (mC (.fn x)) := by
  obtain ⟨f, fd, a, b, _⟩ := F.ex
  exact s_fn a b hg hd
theorem s_callE (T : FT X.prog X.w X.K X.mg X.base k tbl) (hr : Room k X.A) (hgd : X.A.guards = some []) (tk : L2N.Takes X W) (hf : SE X W fe mf) (ha : SA X W (e :: es) ms)
    (ht : eval (.Call fe (e :: es) [] pos) X.env = (do callWith pos (← eval fe X.env) [] (backTo pos (starEach (e :: es) X.env)) (backToKw pos (keywordEach [] X.env))) := by rfl)
    (he : starEach (e :: es) X.env = (false, eval e X.env) :: starEach es X.env := by rfl) (hpl : (backTo pos (starEach es X.env)).any (·.1) = false := by rfl) : SE X W (.Call fe (e :: es) [] pos) (mCallE tbl mf ms) := by
  refine ⟨fun pins s σ H Q I h => ?_⟩
  refine Call_ (thn (hf.run pins s σ H _ I (rE_callE h)) fun u s1 ⟨y, H1, I1, ry, x, f, m, ey, hm, hk, hl, q⟩ => ?_) ht
  subst ey
  obtain rfl : u = Value.ref f := ry
  obtain ⟨ps, F⟩ := T.look hl
  obtain ⟨f', fd, a, b, c, d, _⟩ := F.ex
  rw [hm] at a; cases a
  refine PySem.W.callWith_K (h₀ := X.base) I.ok.mod.kin hk (thn (ha.run pos pins s1 σ H1 _ I1 q) ?_) he hpl
  rintro us s2 ⟨vs, H2, I2, r, q2⟩
  exact ⟨I2.kIn, run_fnG d hr hgd c (L2N.passAt tk σ) I2 r q2⟩
end
/-! ### {k: v} -/
section
variable {X : Cx} {W : WX} {ek ev : Expr} {mk mv : M} {pos : Pos}
end
end Zm
namespace Zm
open PySem PySem.Spec PyProof.Rows L2
/-! ### sorted(d), d's keys ints; list(range(..)) -/
section
variable {K : PySem.W.Frag} {mg : Str → Option Value}
end
section
variable {X : Cx} {W : WX} {ea eb : Expr} {ma mb : M} {p q pos qpos : Pos}
end
end Zm
set_option Elab.async false
set_option linter.all false
set_option maxRecDepth 100000
set_option autoImplicit false
/-! Z31: a value handed on as frozen. -/
namespace Zm
open PySem PySem.Spec PyProof.Rows L2
section
variable {X : Cx} {W : WX} {e : Expr} {m : M}
end
section
variable {K : PySem.W.Frag} {mg : Str → Option Value}
end
end Zm
set_option Elab.async false
set_option linter.all false
set_option maxRecDepth 100000
set_option autoImplicit false
/-! ZI4: enumerate of a zip of two rows. -/
namespace Zi
open PySem PySem.Spec PyProof.Rows L2
section
variable {prog : Program} {w : World} {A : Around} {E : Value → Shared → Prop} {s : Shared} {z tI tO i1 i2 : Addr} {fp1 fp2 : List Addr} {n1 n2 i : Nat} {P1 P2 : Nat → Value → Prop} {St1 St2 : Nat → Heap → Prop} {a1 a2 u : Value} {b : Bool}
end
section
variable {prog : Program} {w : World} {A : Around} {E : Value → Shared → Prop} {s : Shared}
end
end Zi
set_option Elab.async false
set_option linter.all false
set_option maxRecDepth 100000
set_option autoImplicit false
/-! Z32: enumerate of a zip. -/
namespace Zm
open PySem PySem.Spec PyProof.Rows L2
section
variable {X : Cx} {W : WX} {tge e e2 e3 : Expr} {m ma mb mc : M} {ms : List M} {es : List Expr} {p p2 pos pos2 tpos : Pos} {elts : List Expr} {kk : Nat}
end
end Zm
set_option Elab.async false
set_option linter.all false
set_option maxRecDepth 100000
set_option autoImplicit false
/-! Z33: a, b = y[i][j], y[k][l]: only what lies within y is frozen. -/
namespace Zm
open PySem PySem.Spec PyProof.Rows L2
section
variable {K : PySem.W.Frag} {mg : Str → Option Value} {W : WX} {H H' H1 : Hp} {ρ ρ' ρ1 : List Addr} {σm : Env} {σ : L2.St} {s s' s1 : Sto} {A F : Cnt} {Ds : Ends}
end
section
variable {X : Cx} {W : WX} {ea eb ec ed : Expr} {ka kb kc kd : M} {px py pt pt2 pos p1 p2 p3 p4 p5 p6 : Pos} {kt k2} {x y z : Str}
end
end Zm
set_option Elab.async false
set_option linter.all false
set_option maxRecDepth 100000
set_option autoImplicit false
/-! Z34: name *= e of numbers. -/
namespace Zm
open PySem PySem.Spec PyProof.Rows L2
section
variable {X : Cx}
end
section
variable {K : PySem.W.Frag} {mg : Str → Option Value} {W : WX} {σ : L2.St} {H : Hp} {D : Ends} {i : Nat} {m : M}
end
section
variable {X : Cx} {W : WX} {e : Expr} {m : M} {x : Str} {pos pos' : Pos}
end
end Zm
set_option Elab.async false
set_option linter.all false
set_option maxRecDepth 100000
set_option autoImplicit false
/-! Z35: min of three. -/
namespace Zm
open PySem PySem.Spec PyProof.Rows L2
@[simp] def gMin3 : Sto → List D → Option D := fun _ ds => match ds with
  | [.int i, .int j, .int k] => some (.int (if k < (if j < i then j else i) then k else (if j < i then j else i)))
  | _ => none
section
variable {K : PySem.W.Frag} {mg : Str → Option Value}
end
end Zm
set_option Elab.async false
set_option linter.all false
set_option maxRecDepth 100000
set_option autoImplicit false
/-! Z36: list(reversed(xs)), tuple(reversed(xs)); a def by another name. -/
namespace RT
open PySem PySem.Spec PyProof.Rows
section
variable {prog : Program} {w : World} {A : Around} {E : Value → Shared → Prop} {s : Shared}
end
section
open L2
variable {X : Cx}
end
end RT
namespace Zm
open PySem PySem.Spec PyProof.Rows L2
section
variable {K : PySem.W.Frag} {mg : Str → Option Value}
variable {X : Cx} {W : WX} {e : Expr} {m : M} {p p2 pos pos2 : Pos}
end
section
variable {P : Program} {w : World} {K : PySem.W.Frag} {mg : Str → Option Value} {base : Heap}
end
end Zm
set_option Elab.async false
set_option linter.all false
set_option maxRecDepth 100000
set_option autoImplicit false
/-! Z37: return (a number, a list of the def's own). -/
namespace Zm
open PySem PySem.Spec PyProof.Rows L2
section
variable {X : Cx} {W : WX} {e : Expr} {m : M} {x : Str} {pos pos' pos2 : Pos} {p1 : Nat}
end
end Zm
set_option Elab.async false
set_option linter.all false
set_option maxRecDepth 100000
set_option autoImplicit false
/-! Z38: a name becomes a new list of what is frozen: the list itself stays owned. -/
namespace Zm
open PySem PySem.Spec PyProof.Rows L2
def mSetT (msk : List Bool) (i : Nat) (m : M) : MS := fun σ s => (m (restr msk σ) s).to σ fun d s' => match d with
  | .lst true ds => if i < σ.length then .nx ((frzE msk σ).set i (some (.lst true (fzs ds)))) s' else .bad
  | _ => .bad
section
variable {K : PySem.W.Frag} {mg : Str → Option Value} {H H1 : Hp} {ρ ρ1 : List Addr} {σm : Env} {σ : L2.St} {s s1 : Sto} {v : V} {A F a f : Cnt}
theorem Rep.ft {ds : List D} (r : Rep K mg H ρ (.lst true ds) v a f) (sp : Sp1 a f) : ∃ a' f', Rep K mg H ρ (.lst true (fzs ds)) v a' f' ∧ ∀ x, a' x ≤ a x ∧ (1 ≤ f' x → 1 ≤ a x ∨ 1 ≤ f x) ∧ (1 ≤ a' x → f' x = 0) := by
  cases r with
  | own h hp t e =>
    rename_i p vs a1
    obtain ⟨F', r, q⟩ := Reps.fz t
    refine ⟨fun x => cp p x + c0 x, F', .own h hp r (fun _ => rfl), fun x => ?_⟩
    have e := e x
    have q := q x
    have s0 := sp x
    have hc : c0 x = 0 := rfl
    refine ⟨by show cp p x + c0 x ≤ a x; omega, fun z => by have := q z; omega, fun z => ?_⟩
    by_cases w : 1 ≤ F' x
    · have := q w
      have z : 1 ≤ cp p x + c0 x := z
      have := s0.2 (by omega)
      omega
    · omega
theorem Rel.setT {msk : List Bool} {Am Fm Ar F2 : Cnt} {ds : List D} (rel : Rel K mg σm s σ H ρ A F) (r2 : EnvR K mg H ρ (frzE msk σm) σ Ar F2) (q : ∀ x, A x = Am x + Ar x ∧ Fm x ≤ F x ∧ (1 ≤ F2 x → 1 ≤ F x ∨ 1 ≤ Am x))
    (fr : Fr c0 H H1 ρ ρ1) (wd : Wd K mg ρ1 s1 H1) (rp : Rep K mg H1 ρ1 (.lst true ds) v a f) (g : Gd Am Fm H a f) (i : Nat) (hi : i < σm.length) :
    ∃ A' F', Rel K mg ((frzE msk σm).set i (some (.lst true (fzs ds)))) s1 (σ.set i (some v)) H1 ρ1 A' F' ∧ Nx A F H A' F' := by
  obtain ⟨a', f', rp', qf⟩ := rp.ft g.sp
  have e1 := r2.frame fr fun _ hx => no0 hx
  obtain ⟨A', F', e', le, _⟩ := e1.set i rp' (by rw [frzE_length]; exact hi)
  have ev := rel.env.there
  have key : ∀ x, 1 ≤ f' x → 1 ≤ Am x ∨ 1 ≤ Fm x ∨ H x = none := fun x h => by
    obtain ⟨g1, g2, g3⟩ := g x
    rcases (qf x).2.1 h with z | z
    · exact .inr (.inr (g2 z).2)
    · exact g3 z
  have new : ∀ x, 1 ≤ a' x → H x = none ∧ A x = 0 ∧ F x = 0 := fun x h => by
    have := (qf x).1
    have hn := ((g x).2.1 (by omega)).2
    have : ¬ 1 ≤ A x + F x := fun y => by obtain ⟨⟨o, ho⟩, _⟩ := ev x y; rw [hn] at ho; cases ho
    exact ⟨hn, by omega, by omega⟩
  refine ⟨A', F', ⟨e', wd, fun x => ?_⟩, fun x => ?_⟩
  · have l := le x
    have s0 := rel.sep x
    have q0 := q x
    have g1 := (g x).1
    have qx := qf x
    by_cases n : 1 ≤ a' x
    · obtain ⟨n1, n2, n3⟩ := new x n
      have h1 : F2 x = 0 := by
        cases z : F2 x with
        | zero => rfl
        | succ k => have := q0.2.2 (by omega); omega
      have := qx.2.2 n
      exact ⟨by omega, fun _ => by omega⟩
    · refine ⟨by omega, fun y => ?_⟩
      have hA : 1 ≤ A x := by omega
      have hF := s0.2 hA
      obtain ⟨⟨o, ho⟩, _⟩ := ev x (by omega)
      have h1 : F2 x = 0 := by
        cases z : F2 x with
        | zero => rfl
        | succ k => have := q0.2.2 (by omega); omega
      have h2 : f' x = 0 := by
        cases z : f' x with
        | zero => rfl
        | succ k =>
          rcases key x (by omega) with w | w | w
          · omega
          · omega
          · rw [w] at ho; cases ho
      omega
  · have l := le x
    have q0 := q x
    refine ⟨fun y => ?_, fun y => ?_⟩
    · by_cases n : 1 ≤ a' x
      · exact .inr (new x n).1
      · exact .inl (by omega)
    · by_cases z : 1 ≤ f' x
      · rcases key x z with w | w | w
        · exact .inl (by omega)
        · exact .inr (.inl (by omega))
        · exact .inr (.inr w)
      · have := q0.2.2 (by omega)
        omega
theorem setT_end {W : WX} {D : Ends} {msk : List Bool} {i : Nat} {m : M} (h : rS K mg W (mSetT msk i m) D σ H) : rE K mg W m σ H fun x H1 => gName i x σ H1 D.nx := by
  obtain ⟨σm, s, ρ, A, F, rel, h⟩ := h
  refine rEF_of_to rel h fun d s1 v H1 ρ1 a f Am Fm Ar F2 fr wd rp g r2 q h => ?_
  split at h
  · split at h
    · rename_i z
      obtain ⟨A', F', rel', n⟩ := rel.setT r2 q fr wd rp g i z
      exact h _ _ _ _ _ fr.up rel' n
    · exact h.elim
  · exact h.elim
end
section
variable {X : Cx} {W : WX} {e : Expr} {m : M} {pos pos' : Pos} {x : Str}
theorem ss_setT (i : Nat) (msk : List Bool) (nd : X.N.Nodup) (he : SE X W e m) (hi : X.N[i]? = some x := by rfl) (hx : Loc X.env.scope x := by first | exact .inl rfl | exact .inr rfl) (hs : swapsWith e (some (.Name x pos')) pos.line X.env = pure false := by rfl)
    (hf : X.fn x = true ∨ X.env.scope.names.lookup x = some .local := by first | exact .inl rfl | exact .inr rfl) : SS X W (.Assign [.Name x pos'] e pos) (mSetT msk i m) :=
  PS.imp (ps_set nd hi hx he hs hf) fun D σ H h => setT_end h
end
end Zm
set_option Elab.async false
set_option linter.all false
set_option maxRecDepth 100000
set_option autoImplicit false
/-! Z39: sorted(d), d's keys pairs of ints. -/
namespace Zm
open PySem PySem.Spec PyProof.Rows L2
section
variable {X : Cx}
end
end Zm
set_option Elab.async false
set_option linter.all false
set_option maxRecDepth 100000
set_option autoImplicit false
/-! Z40: the machine of sorted(d), d's keys pairs of ints. -/
namespace Zm
open PySem PySem.Spec PyProof.Rows L2
section
variable {K : PySem.W.Frag} {mg : Str → Option Value} {H : Hp} {ρ : List Addr}
end
end Zm
set_option Elab.async false
set_option linter.all false
set_option maxRecDepth 100000
set_option autoImplicit false
/-! Z41: x[j][k] += e. -/
namespace Zm
open PySem PySem.Spec PyProof.Rows L2
section
variable {K : PySem.W.Frag} {mg : Str → Option Value} {W : WX} {H : Hp} {σ : L2.St} {Ds : Ends} {i : Nat} {mj mk m : M}
end
section
variable {X : Cx} {W : WX} {e ej ek : Expr} {m mj mk : M} {pos pos' ipos spos : Pos} {x : Str}
end
end Zm
set_option Elab.async false
set_option linter.all false
set_option maxRecDepth 100000
set_option autoImplicit false
/-! Z42: name = f(a, xs.pop(e)), f a def as a value, xs an owned list of numbers. -/
namespace Zm
open PySem PySem.Spec PyProof.Rows L2
section
variable {K : PySem.W.Frag} {mg : Str → Option Value} {W : WX} {H H' H1 : Hp} {ρ ρ' ρ1 : List Addr} {σm : Env} {σ : L2.St} {s s' s1 : Sto}
end
section
variable {X : Cx} {W : WX} {e : Expr} {me : M} {k : Nat} {f x xa xi : Str} {tbl : List (Str × Fn)} {pos pos' p1 p2 p3 apos cpos bpos : Pos}
end
end Zm
set_option Elab.async false
set_option linter.all false
set_option maxRecDepth 100000
set_option autoImplicit false
/-! Z43: sorted(xs, reverse=True), numbers. -/
namespace Zm
open PySem PySem.Spec PyProof.Rows L2
section
variable {K : PySem.W.Frag} {mg : Str → Option Value}
end
section
variable {X : Cx} {W : WX} {e : Expr} {m : M} {p pos p2 kpos : Pos} {j : Nat}
end
section
variable {X : Cx} {W : WX} {ea : Expr} {ma : M} {p q pos qpos : Pos}
end
end Zm
set_option Elab.async false
set_option linter.all false
set_option maxRecDepth 100000
set_option autoImplicit false
/-! Z44: the least of a list of lists of numbers. -/
namespace Zm
open PySem PySem.Spec PyProof.Rows L2
mutual
theorem reads_uniq {h : Heap} : ∀ {d d' : PyData} {v : Value} {as bs : List Addr}, Reads h v d as → Reads h v d' bs → d = d'
  | _, _, _, _, _, .none, .none => rfl
  | _, _, _, _, _, .bool _, .bool _ => rfl
  | _, _, _, _, _, .int _ _, .int _ _ => rfl
  | _, _, _, _, _, .str _ _, .str _ _ => rfl
  | _, _, _, _, _, .list e1 _ d1 r1, .list e2 _ d2 r2 => by
    rw [e1] at e2; cases e2; rw [d1] at d2; cases d2
    rw [readsA_uniq r1 r2]
  | _, _, _, _, _, .tuple e1 _ d1 r1, .tuple e2 _ d2 r2 => by
    rw [e1] at e2; cases e2; rw [d1] at d2; cases d2
    rw [readsA_uniq r1 r2]
  | _, _, _, _, _, .list e1 c1 _ _, .tuple e2 c2 _ _ => by
    rw [e1] at e2; cases e2; rw [c1] at c2; exact absurd (Value.type.inj c2) (by decide)
  | _, _, _, _, _, .tuple e1 c1 _ _, .list e2 c2 _ _ => by
    rw [e1] at e2; cases e2; rw [c1] at c2; exact absurd (Value.type.inj c2) (by decide)
  | _, _, _, _, _, .dict e1 c1 _ _ _, .list e2 c2 _ _ => by
    rw [e1] at e2; cases e2; rw [c1] at c2; exact absurd (Value.type.inj c2) (by decide)
  | _, _, _, _, _, .dict e1 c1 _ _ _, .tuple e2 c2 _ _ => by
    rw [e1] at e2; cases e2; rw [c1] at c2; exact absurd (Value.type.inj c2) (by decide)
  | _, _, _, _, _, .list e1 c1 _ _, .dict e2 c2 _ _ _ => by
    rw [e1] at e2; cases e2; rw [c1] at c2; exact absurd (Value.type.inj c2) (by decide)
  | _, _, _, _, _, .tuple e1 c1 _ _, .dict e2 c2 _ _ _ => by
    rw [e1] at e2; cases e2; rw [c1] at c2; exact absurd (Value.type.inj c2) (by decide)
  | _, _, _, _, _, .dict e1 _ d1 r1 q1, .dict e2 _ d2 r2 q2 => by
    rw [e1] at e2; cases e2; rw [d1] at d2; cases d2
    have a := readsA_uniq r1 r2
    have b := readsA_uniq q1 q2
    congr 1
    exact pairs_eq a b
theorem readsA_uniq {h : Heap} : ∀ {ds es : List PyData} {vs : List Value} {as bs : List Addr}, ReadsAll h vs ds as → ReadsAll h vs es bs → ds = es
  | _, _, _, _, _, .nil, .nil => rfl
  | _, _, _, _, _, .cons r1 q1, .cons r2 q2 => by rw [reads_uniq r1 r2, readsA_uniq q1 q2]
theorem pairs_eq {α β : Type} : ∀ {xs ys : List (α × β)}, xs.map (·.1) = ys.map (·.1) → xs.map (·.2) = ys.map (·.2) → xs = ys
  | [], [], _, _ => rfl
  | [], _ :: _, h, _ => by simp at h
  | _ :: _, [], h, _ => by simp at h
  | (a, b) :: xs, (c, d) :: ys, h, h' => by
    simp only [List.map_cons, List.cons.injEq] at h h'
    rw [h.1, h'.1, pairs_eq h.2 h'.2]
end
def ltL (a b : List Int) : Bool := PySem.W.dataLt (.list (a.map .int)) (.list (b.map .int))
def minLL (x : List Int) (xs : List (List Int)) : List Int := xs.foldl (fun a y => if ltL y a then y else a) x
section
variable {X : Cx}
end
section
variable {K : PySem.W.Frag} {mg : Str → Option Value}
end
end Zm
set_option Elab.async false
set_option linter.all false
set_option maxRecDepth 100000
set_option autoImplicit false
/-! ZX1: walks over lists and tuples while an exception is handled. -/
namespace Zm
open PySem PySem.Spec PyProof.Rows L2 HotX L2H
section
variable {prog : Program} {w : World} {A : Around} {E : Value → Shared → Prop} {s : Shared}
/-- the walk's end is raised, and caught: nothing but the iterator has changed -/
theorem stop_hot {it x1 : Addr} {h0 : Heap} (hot : HotAt A.in1 x1 h0) (hne : ∀ b o, h0.get? b = some o → s.heap.get? b = some o ∨ b = it) (nx : x1 ≠ it)
    {α : Type} {Qa : α → Shared → Prop} {Ea : Value → Shared → Prop}
    (hE : ∀ (a : Addr) (g : Heap), (∀ b o, s.heap.get? b = some o → g.get? b = some o) → (∃ o, g.get? a = some o ∧ o.cls = .type "StopIteration") → Ea (.ref a) { s with heap := g }) :
    wpAny (model prog w) A.in1 (newExc (.type "StopIteration") [] >>= fun e => (raiseNew e : Sem α)) Qa Ea s := by
  obtain ⟨hh, o1, vs1, g1, d1, c1⟩ := hot
  have g1' : s.heap.get? x1 = some o1 := (hne _ _ g1).resolve_right nx
  refine wpAny_bind ?_
  simp only [newExc, newTuple]
  refine wpAny_bind (wpAny_newObj_type ?_ (by size_fits))
  refine wpAny_bind (m := firstArgMember _ _) (wpAny_of_eq (a := Value.none) (by first | rfl | (simp only [firstArgMember]; rfl)) (wpAny_newObj_type ?_ (by size_fits)))
  have k1 := Heap.get?_push_of_some { cls := .type "tuple", data := .seq ([] : List Value).toArray } g1'
  refine raiseNew_hot ⟨hh, o1, vs1, Heap.get?_push_of_some _ k1, d1, c1⟩ (Nat.ne_of_lt (Heap.lt_size k1)) (Heap.get?_push_size _ rfl) rfl (by first | (simp; done) | (simp; omega) | (simp only [Array.size_append]; simp; omega)) (hE _ _ (fun b o e => ?_) ⟨_, Heap.get?_update_self _ (Heap.get?_push_size _ rfl) rfl, rfl⟩)
  have k2 := Heap.get?_push_of_some { cls := .type "tuple", data := .seq ([] : List Value).toArray } e
  rw [Heap.get?_update_other _ _ (Nat.ne_of_gt (Heap.lt_size k2))]
  exact Heap.get?_push_of_some _ k2
theorem list_end_hot {it l x1 : Addr} {i : Nat} {items : Array Value} {Q : Option Value → Shared → Prop} (hot : HotAt A x1 s.heap) (nx : x1 ≠ it) (hit : s.heap.IsListIter it l i) (hl : s.heap.IsList l items) (hx : items[i]? = none)
    (hQ : ∀ g, (∀ b o, b ≠ it → s.heap.get? b = some o → g.get? b = some o) → Q none { s with heap := g }) : wpAny (model prog w) A (pyNext (.ref it)) Q E s := by
  obtain ⟨oi, hoi, hci, hdi⟩ := id hit
  obtain ⟨ol, hol, _, nl, hdl⟩ := hl
  unfold pyNext
  refine wpAny_bind (wpAny_attempt (wpAny_callSpecial?_slot (name := Str.ofString "__next__") hit.typeIs slot_listiter_next (wpAny_call_entry slot_listiter_next hit.typeIs entry_listiter_next ?_ (args_listiter_next _))))
  show wpAny _ _ (field (.ref it) 0 >>= _) _ _ s
  refine wpAny_bind (wpAny_field hoi hdi (x := .ref l) rfl ?_)
  show wpAny _ _ (if (Value.ref l == Value.none) = true then _ else _) _ _ s
  rw [if_neg (show ¬ ((Value.ref l == Value.none) = true) from Bool.false_ne_true)]
  refine wpAny_bind (m := field (.ref it) 1) (wpAny_field hoi hdi (x := .int i 0) rfl (wpAny_bind (m := seqItems? (.ref l)) (wpAny_seqItems hol hdl ?_)))
  simp only [Int.toNat_natCast, hx]
  refine wpAny_bind (wpAny_rule (wpAny_bind (wpAny_setField hoi hdi (by simp) ?_)))
  show wpAny _ A.in1 (newExc (.type "StopIteration") [] >>= fun e => raiseNew e) _ _ _
  refine stop_hot (it := it) (h0 := s.heap) hot (fun b o e => ?_) nx fun a g k ⟨oa, ga, ca⟩ => ?_
  · by_cases z : b = it
    · exact .inr z
    · exact .inl ((Heap.get?_update_other _ _ (Ne.symm z)).trans e)
  · refine wpAny_bind (wpAny_isInstance (T := "StopIteration") (b := true) ⟨oa, ga, ca⟩ isSubtype_stop (wpAny_pure (hQ g fun b o nb e => k b o ?_)))
    exact (Heap.get?_update_other _ _ (Ne.symm nb)).trans e
theorem tuple_end_hot {it t x1 : Addr} {i : Nat} {items : Array Value} {Q : Option Value → Shared → Prop} (hot : HotAt A x1 s.heap) (nx : x1 ≠ it) (hit : s.heap.IsTupleIter it t i) (ht : s.heap.IsTuple t items) (hx : items[i]? = none)
    (hQ : ∀ g, (∀ b o, b ≠ it → s.heap.get? b = some o → g.get? b = some o) → Q none { s with heap := g }) : wpAny (model prog w) A (pyNext (.ref it)) Q E s := by
  obtain ⟨oi, hoi, hci, hdi⟩ := id hit
  obtain ⟨ol, hol, _, nl, hdl⟩ := ht
  unfold pyNext
  refine wpAny_bind (wpAny_attempt (wpAny_callSpecial?_slot (name := Str.ofString "__next__") hit.typeIs F.slot_tuple_iterator_next (wpAny_call_entry F.slot_tuple_iterator_next hit.typeIs F.entry_tuple_iterator_next ?_ (F.args_tuple_iterator_next_1 _))))
  show wpAny _ _ (field (.ref it) 0 >>= _) _ _ s
  refine wpAny_bind (wpAny_field hoi hdi (x := .ref t) rfl ?_)
  show wpAny _ _ (if (Value.ref t == Value.none) = true then _ else _) _ _ s
  rw [if_neg (show ¬ ((Value.ref t == Value.none) = true) from Bool.false_ne_true)]
  refine wpAny_bind (m := field (.ref it) 1) (wpAny_field hoi hdi (x := .int i 0) rfl (wpAny_bind (m := seqItems? (.ref t)) (wpAny_seqItems hol hdl ?_)))
  simp only [Int.toNat_natCast, hx]
  refine wpAny_bind (wpAny_rule (wpAny_bind (wpAny_setField hoi hdi (by simp) ?_)))
  show wpAny _ A.in1 (newExc (.type "StopIteration") [] >>= fun e => raiseNew e) _ _ _
  refine stop_hot (it := it) (h0 := s.heap) hot (fun b o e => ?_) nx fun a g k ⟨oa, ga, ca⟩ => ?_
  · by_cases z : b = it
    · exact .inr z
    · exact .inl ((Heap.get?_update_other _ _ (Ne.symm z)).trans e)
  · refine wpAny_bind (wpAny_isInstance (T := "StopIteration") (b := true) ⟨oa, ga, ca⟩ isSubtype_stop (wpAny_pure (hQ g fun b o nb e => k b o ?_)))
    exact (Heap.get?_update_other _ _ (Ne.symm nb)).trans e
/-- (a, b, ..) = a tuple -/
theorem unpack_hot {t x1 : Addr} {items : Array Value} {env : PySem.Env} {elts : List Expr} {z1 : Nat} {pos : Pos} {Q : Unit → Shared → Prop} (hot : HotAt A x1 s.heap) (ht : s.heap.IsTuple t items)
    (hn : (assignEach elts env).length = items.size) (hstar : (assignEach elts env).findIdx? (·.1) = none)
    (h : ∀ g, (∀ b o, s.heap.get? b = some o → g.get? b = some o) → wpAny (model prog w) A (assignInOrder ((assignEach elts env).map (·.2)) items.toList) Q E { s with heap := g }) :
    wpAny (model prog w) A (assign (.Tuple elts z1 pos) env (.ref t)) Q E s := by
  rw [arm_assign_Tuple]
  refine wpAny_bind (wpAny_standAt ?_)
  unfold unpack
  rw [hn, hstar]
  refine wpAny_bind (wpAny_holding ?_)
  have hlt : t ≠ s.heap.objs.size := by obtain ⟨o, ho, _⟩ := ht; exact Nat.ne_of_lt (Heap.lt_size ho)
  obtain ⟨hh, o1, vs1, g1, d1, c1⟩ := hot
  have nx : x1 ≠ s.heap.objs.size := Nat.ne_of_lt (Heap.lt_size g1)
  unfold unpackItems notIterableAtAll
  refine wpAny_bind (wpAny_bind (wpAny_specialOf ht.typeIs F.slot_tuple_iter.lookup (wpAny_pure ?_)))
  simp only [Bool.false_eq_true, if_false]
  refine wpAny_bind (wpAny_holding (wpAny_pyIter_tuple ht (wpAny_bind (wpAny_holding (wpAny_draw_tuple hlt items.size 0 _ _ ⟨_, Heap.get?_push_size _ rfl, rfl, rfl⟩ (ht.push _) (by omega) fun g2 hit2 hs2 => ?_)))))
  have hall : List.take items.size (List.drop 0 items.toList) = items.toList := by rw [List.drop_zero]; exact List.take_of_length_le (by simp)
  rw [hall, if_neg (by simp)]
  have ht2 : g2.IsTuple t items := (ht.push _).extBut hs2.extBut hlt
  have keep2 : ∀ b o, b ≠ s.heap.objs.size → s.heap.get? b = some o → g2.get? b = some o := fun b o hb e => hs2.extBut b o hb (Heap.get?_push_of_some _ e)
  refine wpAny_bind (wpAny_holding (tuple_end_hot (x1 := x1) ⟨hh, o1, vs1, keep2 _ _ nx g1, d1, c1⟩ nx hit2 ht2 (by simp) fun g3 k3 => ?_))
  simp only [Option.isSome_none, Bool.false_eq_true, if_false]
  refine wpAny_pure (h g3 fun b o e => ?_)
  have hb := Nat.ne_of_lt (Heap.lt_size e)
  exact k3 b o hb (keep2 b o hb e)
end
end Zm
set_option Elab.async false
set_option linter.all false
set_option maxRecDepth 100000
set_option maxHeartbeats 2000000
set_option autoImplicit false
/-! ZX2: lists made of lists while an exception is handled. -/
namespace Zm
open PySem PySem.Spec PyProof.Rows L2 HotX
abbrev blkP (Y : Cx) (t : Shared) (G : Hp) (sco : Scope) (ce : PySem.Env) (its : List Addr) : Cx := { Y.blk t G sco ce its with pn := Y.pn }
abbrev HotC := L2H.HotC
theorem pinsUp {Z : Cx} {ps : List (Addr × Obj)} {τ' : L2.St} {G' : Hp} {t' : Shared} (J : Inv Z ps τ' G' t') (q : List (Addr × Obj)) (h : ∀ p ∈ q, t'.heap.get? p.1 = some p.2 ∧ G' p.1 = none ∧ p.1 ≠ Z.env.locals ∧ p.1 ∉ Z.fs ∧ ∀ v, p.2.data ≠ .cell v) : Inv { Z with pn := q } ps τ' G' t' :=
  ⟨⟨J.ok.mod, J.ok.kind, J.ok.glob, J.ok.blt, J.ok.above, J.ok.inj, J.ok.has, J.ok.cab, J.ok.hd, J.ok.frames, J.ok.stk, J.ok.exf, J.ok.bs, J.ok.bsz, J.ok.noex, J.ok.exfs, J.ok.funs, J.ok.frf⟩, J.os, J.bare, J.base, J.loc, J.cell, J.free, J.freeC, fun p hp => (List.mem_append.mp hp).elim (h p) fun z => J.pin p (List.mem_append_right _ z), J.hok, J.len⟩
section
variable {Y : Cx} {pz : List (Addr × Obj)} {τ : L2.St} {G : Hp} {t : Shared}
theorem hot_at {it : Addr} (hc : HotC Y) (J : Inv Y pz τ G t) (f : ∀ p ∈ Y.pn ++ pz, p.1 ≠ it) : ∃ x1, HotAt Y.A x1 t.heap ∧ x1 ≠ it := by
  obtain ⟨p, ⟨hh, v1, e1, c1⟩, hp⟩ := hc
  have hp' := List.mem_append_left pz hp
  exact ⟨p.1, ⟨hh, p.2, v1, (J.pin p hp').1, e1, c1⟩, f p hp'⟩
theorem walk_listH {P : Program} {w : World} {K : PySem.W.Frag} {tg : Expr} (l it : Addr) : L2H.TurnH P w K tg (Itl K l) [it] it (fun j h => h.IsListIter it l j) where
  mem := List.mem_singleton.mpr rfl
  obj := fun j h q b hb => by
    rw [List.mem_singleton.mp hb]
    obtain ⟨o, e1, _, e3⟩ := q
    exact ⟨o, e1, fun v z => by rw [e3] at z; cases z⟩
  keep := fun j h h' q k => q.at fun o e => k it (List.mem_singleton.mpr rfl) o e
  item := by
    intro Y eP ew eK _ j pz t τ G E J hf q ⟨ws, x, hws, hx⟩
    subst eP ew eK
    obtain ⟨vals, rv, pl, _⟩ := J.list hws
    obtain ⟨u, eu, ru⟩ := rv.get hx
    obtain ⟨f0, f1, f2, f3, f4, f5⟩ := hf it (List.mem_singleton.mpr rfl)
    refine wpAny_pyNext_list_item q pl.isList (x := u) (by simpa using eu) fun g q' sb => ?_
    have J1 : Inv Y pz τ G { t with heap := g } := J.turned (t' := t.toks) (fun b o nb e => (sb.2 b nb).trans e) f0 f1 f3 f4 f5
    obtain ⟨oi, e1, e2, e3⟩ := id q'
    exact ⟨u, rfl, go_of (s := { t with heap := g }) e1 e2 e3 (by decide) ⟨x, G, J1, ru, ⟨rfl, fun zs hz => by rw [J.list_inj hz hws]; exact hx⟩, q', fun b hb => (hf b hb).1⟩⟩
  done := by
    intro Y eP ew eK hc j pz t τ G E J hf q ⟨ws, hws, hl⟩
    subst eP ew eK
    obtain ⟨vals, rv, pl, _⟩ := J.list hws
    obtain ⟨f0, f1, f2, f3, f4, f5⟩ := hf it (List.mem_singleton.mpr rfl)
    have len := rv.length
    obtain ⟨x1, hot, nx⟩ := hot_at hc J f5
    exact list_end_hot hot nx q pl.isList (by simp; omega) fun g k => ⟨rfl, J.turned (t' := t.toks) (fun b o nb e => k b o nb e) f0 f1 f3 f4 f5⟩
  self := fun _ _ _ _ _ q h => wpAny_pyIter_listiter q h
theorem pi_listHot {tg l : Expr} {tl : TE} (hl : PE Y l tl) : L2H.PIH Y tg l (iList Y.K tl) := by
  refine ⟨fun pz t τ G R J h => thn (hl.run pz t τ G _ J h) fun v t1 ⟨x, G1, J1, r1, a, e, ⟨ws, hws⟩, q⟩ => ?_⟩
  subst e
  cases r1
  obtain ⟨vals, rv, pl, _⟩ := J1.list hws
  refine wpAny_pyIter_list pl.isList ⟨t1.heap.objs.size, [t1.heap.objs.size], _, _, G1, rfl, J1.kept (t' := t1.toks) fun b o e => Heap.get?_push_of_some _ e, walk_listH a _, ⟨_, Heap.get?_push_size _ rfl, rfl, rfl⟩, fun b hb => ?_, q⟩
  rw [List.mem_singleton.mp hb]
  exact J1.fpOk (Nat.le_refl _) (J1.hok.fresh (Nat.le_refl _))
/-- (a, b) = a tuple -/
theorem pg_tupH {pos : Pos} {es : List Expr} {k : Nat} {u : TGs} {n : Nat} (hc : HotC Y) (h : PGs Y es u) (hn : (assignEach es Y.env).length = n := by rfl) (hst : (assignEach es Y.env).findIdx? (·.1) = none := by rfl) : PG Y (.Tuple es k pos) (L2.gTup Y.K n u) := by
  refine ⟨fun pz t τ G v w Q J r ⟨a, ws, ev, hq, hl, hw⟩ => ?_⟩
  subst ev
  cases r
  obtain ⟨vals, rv, ht, _⟩ := J.tuple hq
  obtain ⟨x1, hot⟩ := hc.at J
  refine unpack_hot hot (show t.heap.IsTuple a vals.toArray from ht) (by simp [hn, ← hl, rv.length]) hst fun g k => ?_
  have J1 : Inv Y pz τ G { t with heap := g } := J.kept (t' := t.toks) k
  exact h.run pz _ τ G ws _ Q J1 (by simpa using rv) hw
end
section
variable {Y : Cx}
theorem lc_hot {pz : List (Addr × Obj)} {t : Shared} {τ : L2.St} {G : Hp} {Q : VK} {elt tg iter : Expr} {ifs : List Expr} {sco : Scope} {own : List (Str × Nat)} {pos pos' : Pos} {wi : TI} {g : TG} {tt : TT} {te : TE} {use : Option (Value → Sem Unit)} {Qf : Value → Shared → Prop}
    (hc : HotC Y) (nd : Y.N.Nodup) (J : Inv Y pz τ G t) (hi : L2H.PIH Y tg iter wi) (bo : BlkOk Y.N Y.env.scope sco own)
    (hg : ∀ (t : Shared) (G : Hp) (C : Addr) (cl : List (Str × Addr)) (fp : List Addr), PG (blkP Y t G sco (compEnvC sco cl C Y.env) fp) tg g)
    (ht : ∀ (t : Shared) (G : Hp) (C : Addr) (cl : List (Str × Addr)) (fp : List Addr), PTs (blkP Y t G sco (compEnvC sco cl C Y.env) fp) ifs tt)
    (he : ∀ (t : Shared) (G : Hp) (C : Addr) (cl : List (Str × Addr)) (fp : List Addr), PE (blkP Y t G sco (compEnvC sco cl C Y.env) fp) elt te) (hfs : ∀ x, foldedSetIterable iter Y.env x = pure x)
    (h : tLc wi g tt te (own.map (·.2)) τ G Q)
    (fin : ∀ D C t' m G', Inv Y pz τ G' t' → Q (.ref D) G' → t'.heap.Ns C m → FpOk Y pz G' C → compPost (model Y.prog Y.w) Y.A Y.xe use Qf (.ref D) C (.ok .next) t') :
    wpAny (model Y.prog Y.w) Y.A (comprehension (.ListComp elt [⟨tg, iter, ifs, 0⟩] sco pos) sco Y.env pos' (newList []) false (eval iter Y.env) use) Qf Y.xe t := by
  have hfree : ∀ y ∈ sco.names, y.2 = .free → ∃ c, Y.env.cells.lookup y.1 = some c := fun y hy e => (bo.free y hy e).elim (fun k => J.ok.has _ (.inl k)) fun k => J.ok.has _ (.inr k)
  refine wpAny_comprehension_free (use := use) rfl hfs (closure_ok hfree) bo.kind (fun y hy e => by rw [bo.uniq y hy, e]) (thn (hi.run pz t τ G _ J h) fun xv t1 hx => thn hx fun itv t2 ⟨it, fp, tn, Jt, G2, ei, J2, T, st2, f2, q⟩ => ?_)
  subst ei
  refine wpAny_newObj_type (newEnv_comp ?_) (by show 0 ≤ sizeLine; decide)
  generalize hD : t2.heap.objs.size = D
  have nD : G2 D = none := J2.hok.fresh (Nat.le_of_eq hD)
  obtain ⟨W, ⟨m0, w0⟩, turn⟩ := q D nD
  generalize ht3 : ({ t2 with heap := t2.heap.push { cls := .type "list", data := .seq ([] : List Value).toArray } } : Shared) = t3
  have J3 : Inv Y pz τ (upd G2 D (.lst [])) t3 := by
    subst ht3
    exact J2.laid (t' := t2.toks) (fun b o e => Heap.get?_push_of_some _ e) (Nat.le_of_eq hD) ⟨Nat.zero_le _, [], 0, .nil, by subst hD; exact Heap.get?_push_size _ rfl⟩
  have h3 : t3.heap = t2.heap.push { cls := .type "list", data := .seq ([] : List Value).toArray } := by subst ht3; rfl
  have sz : ∀ b ∈ fp, b < t2.heap.objs.size := fun b hb => let ⟨o, e, _⟩ := T.obj _ _ st2 b hb; Heap.lt_size e
  have f3 : ∀ b ∈ fp, FpOk Y pz (upd G2 D (.lst [])) b ∧ b < t3.heap.objs.size := fun b hb => by
    have lt := sz b hb
    refine ⟨⟨(upd_ne (by subst hD; exact Nat.ne_of_lt lt)).trans (f2 b hb).1, (f2 b hb).2⟩, ?_⟩
    rw [h3, Heap.size_push]; exact Nat.lt_succ_of_lt lt
  have st3 : tn 0 t3.heap := T.keep _ _ _ st2 fun b _ o e => by rw [h3]; exact Heap.get?_push_of_some _ e
  have B0 := block_start J3 bo nd f3
  have pin3 : ∀ p ∈ Y.pn, t3.heap.get? p.1 = some p.2 ∧ (upd G2 D (.lst [])) p.1 = none ∧ p.1 ≠ Y.env.locals ∧ p.1 ∉ Y.fs ∧ ∀ v, p.2.data ≠ .cell v := fun p hp => J3.pin p (List.mem_append_left _ hp)
  generalize hce : compEnvC sco (cellsFrom (t3.heap.objs.size + 1) sco.names (cloFrom Y.env.cells sco.names [])) t3.heap.objs.size Y.env = ce at B0
  have cL : ce.locals = t3.heap.objs.size := by subst hce; rfl
  generalize hG3 : upd G2 D (.lst []) = G3 at J3 B0 w0 f3 pin3
  have B1 := pinsUp B0 Y.pn fun p hp => by
    obtain ⟨a, b, c, d, e⟩ := pin3 p hp
    refine ⟨pushCells_keeps _ _ _ _ (Heap.get?_push_of_some _ a), b, ?_, fun z => ?_, e⟩
    · show p.1 ≠ ce.locals
      rw [cL]; exact Nat.ne_of_lt (Heap.lt_size a)
    · rcases List.mem_cons.mp (J3.stkSub _ z) with y | y
      · exact c y
      · exact d y
  have hcB : HotC (blkP Y t3 G3 sco ce fp) := hc
  have pg : PG (blkP Y t3 G3 sco ce fp) tg g := by subst hce; exact hg _ _ _ _ _
  have pt : PTs (blkP Y t3 G3 sco ce fp) ifs tt := by subst hce; exact ht _ _ _ _ _
  have pe : PE (blkP Y t3 G3 sco ce fp) elt te := by subst hce; exact he _ _ _ _ _
  show codeAny _ _ (.compStart (.ListComp elt [⟨tg, iter, ifs, 0⟩] sco pos) 0 (.ref it) (.ref D) (compEnvC sco (cellsFrom (t3.heap.objs.size + 1) sco.names (cloFrom Y.env.cells sco.names [])) t3.heap.objs.size Y.env)) (compPost (model Y.prog Y.w) Y.A Y.xe use Qf (.ref D) t3.heap.objs.size) { t3 with heap := pushCells (t3.heap.push { cls := .type "dict", data := .dict #[] }) sco.names }
  rw [hce]
  have nfp : ∀ b ∈ fp, G3 b = none := fun b hb => (f3 b hb).1.1
  generalize ht4 : ({ t3 with heap := pushCells (t3.heap.push { cls := .type "dict", data := .dict #[] }) sco.names } : Shared) = t4 at B1 ⊢
  have st4 : tn 0 t4.heap := T.keep _ _ _ st3 fun b _ o e => by subst ht4; exact pushCells_keeps _ _ _ _ (Heap.get?_push_of_some _ e)
  have stat : ∀ {τ' : L2.St} {G' : Hp} {t' : Shared}, Inv (blkP Y t3 G3 sco ce fp) [] τ' G' t' → (∀ b ∈ fp, G' b = none) → ∀ b ∈ fp, FpOk (blkP Y t3 G3 sco ce fp) [] G' b := fun {τ' G' t'} J' n b hb =>
    ⟨n b hb, (J'.ok.exf b hb).1, J'.ok.exfs b hb, .inl hb, fun x c e => (J'.ok.exf b hb).2 x c e, fun p hp => (f3 b hb).1.2.2.2.2.2 p (List.mem_append_left _ (by simpa using hp))⟩
  have loop : codeAny (model Y.prog Y.w) Y.A (.compLoop (.ListComp elt [⟨tg, iter, ifs, 0⟩] sco pos) 0 (.ref it) (.ref D) ce) (compPost (model Y.prog Y.w) Y.A Y.xe use Qf (.ref D) t3.heap.objs.size) t4 := by
    refine compLoop_any (fun n t' => ∃ j G', Inv (blkP Y t3 G3 sco ce fp) [] (wipe τ (own.map (·.2))) G' t' ∧ tn j t'.heap ∧ (∀ b ∈ fp, G' b = none) ∧ W j n G') ?_ m0 ⟨0, G3, B1, st4, nfp, w0⟩
    rintro n t5 ⟨j, G5, J5, st5, n5, w5⟩
    rcases turn j n G5 w5 with ⟨stop, qq⟩ | ⟨go, Nx, hNx, step⟩
    · refine thnF (T.done (blkP Y t3 G3 sco ce fp) rfl rfl rfl hcB j [] t5 _ G5 (fun _ _ => False) J5 (stat J5 n5) st5 stop) fun r t6 ⟨hr, J6⟩ => ?_
      subst hr
      have J7 : Inv Y pz τ G5 t6 := J3.call' (ch := fp) J6.os J6.base J6.hok J6.bare fun b hb => ⟨(f3 b hb).1.2.2.2.1, (f3 b hb).1.2.1, (f3 b hb).1.2.2.2.2.1, (f3 b hb).1.2.2.2.2.2⟩
      have nC : G5 t3.heap.objs.size = none := by have z : G5 ce.locals = none := J6.free; rwa [cL] at z
      obtain ⟨m, hns, _⟩ := J6.loc
      have hns : t6.heap.Ns ce.locals m := hns
      rw [cL] at hns
      exact fin D t3.heap.objs.size t6 m G5 J7 qq hns (J3.fpOk (Nat.le_refl _) nC)
    · refine thnF (T.item (blkP Y t3 G3 sco ce fp) rfl rfl rfl hcB j [] t5 _ G5 (fun _ _ => False) J5 (stat J5 n5) st5 go) fun r t6 ⟨u, hr, h6⟩ => ?_
      subst hr
      refine thnF h6 fun _ t7 ⟨x, G7, J7, r7, y7, st7, n7⟩ => ?_
      have J7' := J7.pinned (stat J7 n7) (T.obj _ _ st7)
      refine thnF (pg.run _ t7 _ G7 x u _ J7' r7 (step x G7 y7)) fun _ t8 ⟨τ8, G8, J8, hw8, q8⟩ => thnF (pt.run _ t8 τ8 G8 _ J8 q8) fun b t9 ⟨G9, J9, q9⟩ => ?_
      have next : ∀ {t' : Shared} {G' : Hp}, Inv (blkP Y t3 G3 sco ce fp) ([] ++ pinsAt fp t7.heap) τ8 G' t' → Nx G' → ∃ m, m < n ∧ ∃ j G', Inv (blkP Y t3 G3 sco ce fp) [] (wipe τ (own.map (·.2))) G' t' ∧ tn j t'.heap ∧ (∀ b ∈ fp, G' b = none) ∧ W j m G' := fun {t' G'} J' nx => by
        obtain ⟨m', lt, w'⟩ := hNx G' nx
        have stay : ∀ b ∈ fp, ∀ o, t7.heap.get? b = some o → t'.heap.get? b = some o ∧ G' b = none := fun b hb o e =>
          let z := J'.pin (b, o) (List.mem_append_right _ (List.mem_append_right _ (mem_pinsAt hb e)))
          ⟨z.1, z.2.1⟩
        refine ⟨m', lt, j + 1, G', (J'.unpinned (pins := [])).weak (by rw [← hw8, wipe_length]) (fun i v e => ?_), T.keep _ _ _ st7 fun b hb o e => (stay b hb o e).1, fun b hb => ?_, w'⟩
        · rw [← hw8] at e; exact (wipe_some e).1
        · obtain ⟨o, e, _⟩ := T.obj _ _ st7 b hb; exact (stay b hb o e).2
      cases b with
      | false =>
        rw [if_neg (by decide)] at q9 ⊢
        exact next J9 q9
      | true =>
        rw [if_pos rfl] at q9 ⊢
        refine thnF (pe.run _ t9 τ8 G9 _ J9 q9) fun z t10 ⟨yv, G10, J10, r10, acc, hD10, hz10, nx⟩ => ?_
        exact app_ok (X := blkP Y t3 G3 sco ce fp) J10 hD10 hz10 r10 fun t11 J11 => next J11 nx
  exact codeAny_compStart_list loop (T.self Y.A 0 _ _ _ st4 loop)
theorem pe_lcH {elt tg iter : Expr} {ifs : List Expr} {sco : Scope} {own : List (Str × Nat)} {pos : Pos} {wi : TI} {g : TG} {tt : TT} {te : TE} (hc : HotC Y) (nd : Y.N.Nodup) (hi : L2H.PIH Y tg iter wi) (bo : BlkOk Y.N Y.env.scope sco own)
    (hg : ∀ (t : Shared) (G : Hp) (C : Addr) (cl : List (Str × Addr)) (fp : List Addr), PG (blkP Y t G sco (compEnvC sco cl C Y.env) fp) tg g)
    (ht : ∀ (t : Shared) (G : Hp) (C : Addr) (cl : List (Str × Addr)) (fp : List Addr), PTs (blkP Y t G sco (compEnvC sco cl C Y.env) fp) ifs tt)
    (he : ∀ (t : Shared) (G : Hp) (C : Addr) (cl : List (Str × Addr)) (fp : List Addr), PE (blkP Y t G sco (compEnvC sco cl C Y.env) fp) elt te) (hfs : ∀ x, foldedSetIterable iter Y.env x = pure x := by intro _; rfl) :
    PE Y (.ListComp elt [⟨tg, iter, ifs, 0⟩] sco pos) (tLc wi g tt te (own.map (·.2))) := by
  refine ⟨fun pz t τ G Q J h => ?_⟩
  rw [eval_ListComp]
  refine lc_hot hc nd J hi bo hg ht he hfs h fun D C t' m G' J' q hn ⟨f0, f1, f2, f3, f4, f5⟩ => ⟨m, hn, fun h'' sb => ?_⟩
  exact ⟨.ref D, G', J'.turned (t' := t'.toks) (fun b o hb e => (sb.2 b hb).trans e) f0 f1 f3 f4 f5, rfl, q⟩
end
end Zm
set_option Elab.async false
set_option linter.all false
set_option maxRecDepth 100000
set_option maxHeartbeats 2000000
set_option autoImplicit false
/-! ZX3: exceptions: raised, caught, asked what they are. -/
namespace Zm
open PySem PySem.Spec PyProof.Rows L2 HotX
/-! ### raised -/
def excB : List Value := [.type "ValueError", .type "Exception", .type "BaseException", .type "object"]
/-- what is known of a class of the program's own exceptions -/
structure ExK (K : PySem.W.Frag) (mg : Str → Option Value) (x : Str) : Prop where
  ex : ∃ C, mg x = some (.ref C) ∧ PySem.W.excIn K C excB "ValueError.__new__" = true ∧ PySem.W.keepIn K (.ref C) = true ∧ PySem.W.subIn K (.ref C) (.type "BaseException") = some true ∧ PySem.W.typeIn K (.ref C) = some (.type "type")
def mRaise (x : Str) : MS := fun σ s => .ex (x, none) σ s
section
variable {X : Cx} {W : WX} {x m : Str} {p p2 pos rpos : Pos} {j : Nat}
/-- X() -/
theorem pmk_none {C : Addr} (q : PySem.W.excIn X.K C excB "ValueError.__new__" = true) (gC : X.mg x = some (.ref C)) (kC : PySem.W.keepIn X.K (.ref C) = true) (r : Raises X (.ref C)) (hg : Gl X x) (hdb : (x == ("__debug__" : Str)) = false := by decide) :
    L2N.PMk X (.Call (.Name x p) [] [] pos) (fun _ H Q => Q (.ref C) none H) := by
  intro pins s σ H Q I h
  refine wpAny_Call_Name_kw (ld_glob I hg gC (PySem.W.callWith_K0 I.kIn kC ?_) hdb)
  obtain ⟨bm, N, nm, qn, bs, hdct, sn, sub, ab, col, dd, k0, k1, k2, k3, k5, mN, hC, hN, hni, T⟩ := exc_obj I.kIn q
  exact wpAny_call_exc_subT PySem.F.excBase_ValueError T hC hN hni (fun h' e hm => L2N.mk_of I hm r h (I.hok.gone hm.new)) (by show 0 ≤ sizeLine; omega)
theorem raise_end {C : Addr} {D : Ends} {σ : L2.St} {H : Hp} (gC : X.mg x = some (.ref C)) (h : rS X.K X.mg W (mRaise x) D σ H) : W (.ref C) none σ H := by
  obtain ⟨σm, s, ρ, A, F, rel, h⟩ := h
  exact h (.ref C) none σ H ρ A F .refl rel .refl ⟨C, gC, rfl, rfl⟩
theorem ss_raise0 (k : ExK X.K X.mg x) (tk : L2N.Takes X W) (hc : X.calm = true := by rfl) (hg : Gl X x := by rfl) (hdb : (x == ("__debug__" : Str)) = false := by decide) : SS X W (.Raise (some (.Call (.Name x p) [] [] pos)) none rpos) (mRaise x) := by
  obtain ⟨C, g, e, kp, sb, ty⟩ := k.ex
  exact PS.imp (L2N.ps_raise hc tk (pmk_none e g kp (raises_own sb ty) hg hdb)) fun D σ H h => raise_end g h
end
/-! ### asked what it is, while it is handled -/
def exSub (c t : Str) : Bool := c == t || t == ("HallError" : Str)
/-- what is known of the class c, asked for those of ts -/
structure XTab (K : PySem.W.Frag) (mg : Str → Option Value) (ts : List Str) (c : Str) : Prop where
  cls : ∀ C, mg c = some (.ref C) → ExcC K C ∧ PySem.W.kitOne K (.ref C) (.type "ValueError") = some true ∧ ∀ t ∈ ts, ∀ q, mg t = some (.ref q) → PySem.W.kitOne K (.ref C) (.ref q) = some (exSub c t)
def gIsX (ts : List Str) (c0 : Str) (a0 : Int) : Sto → List D → Option D := fun _ ds => match ds with
  | [.exc c (some a), .fn t] => if c = c0 ∧ a = a0 ∧ t ∈ ts then some (.bl (exSub c t)) else none
  | [.exc c (some a), .ty t] => if c = c0 ∧ a = a0 ∧ t = "ValueError" then some (.bl true) else none
  | _ => none
section
variable {X : Cx} {W : WX}
theorem call_isH {C : Addr} {p0 : Addr × Obj} (hC : ExcC X.K C) (hp : p0 ∈ X.pn) (hz : L2N.Zn (.ref C) none p0.2) (hf : ∃ vs, p0.2.data = .fields vs) : CallR X (.builtin "isinstance") (rIsE X.K C p0.1) := by
  intro pins s σ H xs us Q I r ⟨c, cv, b, e1, hcv, ek, q⟩
  subst e1
  match us, r with
  | [_, u], .cons r1 (.cons r2 .nil) =>
    cases r1
    have e2 := hcv _ r2
    subst e2
    obtain ⟨g, _⟩ := I.pin p0 (List.mem_append_left _ hp)
    obtain ⟨vs, hv⟩ := hf
    obtain ⟨a0, oc, od, oda, osl⟩ := p0
    obtain ⟨z1, z2, _⟩ := hz
    dsimp only at z1 z2 hv
    subst z1 z2 hv
    exact PySem.W.kia_one (PySem.W.handS_kitx_exc hC.hg hC.hk hC.hs hC.hd hC.ha hC.hn hC.ht hC.hm) I.kIn (show PySem.W.InstAt s.heap a0 _ C none from ⟨g, rfl, rfl, trivial⟩) ek (fun z => nomatch z) fun tk => ⟨.bl b, H, I.kept (t' := tk) fun _ _ z => z, rfl, q⟩
theorem v_isX {K : PySem.W.Frag} {mg : Str → Option Value} {ts : List Str} {c0 : Str} {C a0 : Addr} (T : XTab K mg ts c0) (gC : mg c0 = some (.ref C)) : OpV K mg (rIsE K C a0) (gIsX ts c0 a0) := by
  obtain ⟨_, hv, ht⟩ := T.cls C gC
  intro ρ s H ds vs a f d w r h e Q q
  have z0 : ∀ b, Q (.bl b) H ↔ Q (.bl b) H := fun b => Iff.rfl
  unfold Zm.gIsX at e
  split at e
  · rename_i c a1 t
    split at e
    · rename_i hh
      cases e
      obtain ⟨rfl, e2, h3⟩ := hh
      obtain ⟨v1, v2, a1', f1', a2', f2', rfl, r1, r2, _⟩ := r.inv2
      cases r1 with
      | exc xa _ _ =>
        cases r2 with
        | fn g2 _ _ _ =>
          have xa : _ = a1 := xa
          rw [e2] at xa
          obtain rfl := Int.ofNat.inj xa
          exact ⟨_, _, _, rfl, fun u hu => hu, ht t h3 _ g2, q _ _ _ _ (Same.refl _) (.bl (fun _ => rfl) fun _ => rfl) (.zero (fun _ => rfl) fun _ => rfl)⟩
    · cases e
  · rename_i c a1 t
    split at e
    · rename_i hh
      cases e
      obtain ⟨rfl, e2, rfl⟩ := hh
      obtain ⟨v1, v2, a1', f1', a2', f2', rfl, r1, r2, _⟩ := r.inv2
      cases r1 with
      | exc xa _ _ =>
        cases r2 with
        | ty _ _ =>
          have xa : _ = a1 := xa
          rw [e2] at xa
          obtain rfl := Int.ofNat.inj xa
          exact ⟨_, _, _, rfl, fun u hu => hu, hv, q _ _ _ _ (Same.refl _) (.bl (fun _ => rfl) fun _ => rfl) (.zero (fun _ => rfl) fun _ => rfl)⟩
    · cases e
  · cases e
end
end Zm
set_option Elab.async false
set_option linter.all false
set_option maxRecDepth 100000
set_option maxHeartbeats 2000000
set_option autoImplicit false
/-! ZX4: a def that is called with the exception that is handled; try. -/
namespace Zm
open PySem PySem.Spec PyProof.Rows L2 HotX
/-- what a def of one argument promises there: of each class of rs, whatever the exception's address is -/
structure FnE (P : Program) (w : World) (K : PySem.W.Frag) (mg : Str → Option Value) (base : Heap) (k : Nat) (f : Addr) (fd : FuncData) (ps : List Str) (rs : List Str) (fw : Str → Int → Fn) : Prop where
  len : ∀ c a vs H Q E, spF K mg (fw c a) vs H Q E → vs.length = ps.length
  run : ∀ (c : Str) (C : Addr) (p : Addr × Obj), c ∈ rs → mg c = some (.ref C) → L2N.Zn (.ref C) none p.2 → ∀ (A : Around) (out : List PySem.Env) (s : Shared) (H : Hp) (args : Args) (us : List Value) (vs : List V) (Q : VK) (E : XK),
    L2H.RoomH k A → L2H.Hot1 A p → L2H.PinOk out H s p → Env0 P w K mg base A out s H → BindsTo s fd args (ps.zip us) → Vals vs us → spF K mg (fw c p.1) vs H Q E → codeAny (model P w) A (.call (.ref f) args) (CR (L2N.CX P w) out P w H s Q E) s
abbrev cxE (P : Program) (w : World) (K : PySem.W.Frag) (mg : Str → Option Value) (base : Heap) (N : List Str) (qual : Str) (scope : Scope) (f : Addr) (cd : Value) (A : Around) (out : List PySem.Env) (s : Shared) (H : Hp) (E : XK) (p : Addr × Obj) : Cx :=
  L2H.cxH (L2N.CX P w) P w K mg base N qual scope f cd A out s H E p
section
variable {P : Program} {w : World} {K : PySem.W.Frag} {mg : Str → Option Value} {base : Heap}
theorem fnE_of {k np ns : Nat} {f : Addr} {name qual : Str} {params : Arguments} {body : List Stmt} {scope : Scope} {dV kV doc pm cdv ct oc : Value} {an od : Option Addr} {osl : Array (Option Value)} {N ps rs : List Str} {mb : Str → Int → MS}
    (lk : K.lookup f = some ⟨oc, od, .func (PySem.W.fnOf name qual params body scope dV kV doc pm an cdv ct), osl⟩) (hcd : PySem.W.codeIn K cdv qual = true) (S : FnScope N ps scope)
    (hN : N.length = ns) (hps : ps.length = np) (hnp : np ≤ ns)
    (hb : ∀ (c : Str) (C : Addr) (p : Addr × Obj) (A : Around) (out : List PySem.Env) (s : Shared) (H : Hp) (E : XK), c ∈ rs → mg c = some (.ref C) → L2N.Zn (.ref C) none p.2 → L2H.Hot1 A p → L2H.RoomH k (A.deeper (envOfC qual scope s.heap.objs.size f cdv)) →
      SSs (cxE P w K mg base N qual scope f cdv A out s H E p) (fun cls dd _ H => E cls dd H) body (mb c p.1)) :
    FnE P w K mg base (k + 1) f (PySem.W.fnOf name qual params body scope dV kV doc pm an cdv ct) ps rs (fun c a => mkFn np ns (mb c a)) := by
  refine ⟨fun c a vs H Q E q => by rw [spF_len mkFn_ar q, hps], fun c C p hc gC hz A out s H args us vs Q E room hot pin ent binds vals want => ?_⟩
  have nvs : vs.length = ps.length := by rw [spF_len mkFn_ar want, hps]
  have kin : K.In s.heap := ent.mod.kin.keeps fun b o e => (ent.bs b o e).1
  have nol : s.heap.NoLimit := ent.mod.nolimit.keeps fun b o e => (ent.bs b o e).1
  have kinds : ∀ y ∈ ps.zip us, scope.names.lookup y.1 = some .local ∨ (scope.names.lookup y.1 = some .cell ∧ ((cellsFrom (s.heap.objs.size + 1) scope.names []).lookup y.1).isSome = true) := by
    rintro ⟨n, v⟩ hy
    exact (S.par n (List.of_mem_zip hy).1).elim .inl fun q => .inr ⟨q, PySem.W.cellsFrom_some _ _ _ (.inl q)⟩
  refine codeAny_call_function room.depth (kin _ _ lk) rfl S.co S.gen rfl (PySem.W.codeRec_of kin hcd) (binds _ _ _ _ (wpAny_newFunctionEnv_cells S.kind kinds ?_))
  intro env he s1 x
  subst he
  have hq := body_of hN hnp want
  have inv0 : Inv (cxE P w K mg base N qual scope f cdv A out s H E p) [] (L2.start N vs) H s1 := L2H.inv_startH S pin ent nvs vals x
  refine ⟨nol.keeps x.toInCall.keep, codeAny_func (wpAny_mono ((hb c C p A out s H E hc gC hz hot (room.deeper _)).run [] s1 (L2.start N vs) H _ inv0 hq) ?_ (fun _ _ z => z))⟩
  intro fl s' hs
  cases fl with
  | brk => obtain ⟨_, _, _, z⟩ := hs; exact z.elim
  | cont => obtain ⟨_, _, _, z⟩ := hs; exact z.elim
  | next => obtain ⟨σ', H', J, z⟩ := hs; exact ⟨.non, H', J.os, J.bare, J.base, J.hok, rfl, z⟩
  | ret u => obtain ⟨v, σ', H', J, rv, z⟩ := hs; exact ⟨v, H', J.os, J.bare, J.base, J.hok, rv, z⟩
end
/-- such a def of the text -/
structure FnX (P : Program) (w : World) (K : PySem.W.Frag) (mg : Str → Option Value) (base : Heap) (k : Nat) (x : Str) (ps rs : List Str) (fw : Str → Int → Fn) : Prop where
  ex : ∃ f fd, mg x = some (.ref f) ∧ PySem.W.keepIn K (.ref f) = true ∧ Binds K fd ps [] ∧ FnE P w K mg base k f fd ps rs fw
section
variable {P : Program} {w : World} {K : PySem.W.Frag} {mg : Str → Option Value} {base : Heap}
theorem FnX.mono {j k : Nat} {x : Str} {ps rs : List Str} {fw : Str → Int → Fn} (F : FnX P w K mg base j x ps rs fw) (h : j ≤ k) : FnX P w K mg base k x ps rs fw := by
  obtain ⟨f, fd, a, b, c, d⟩ := F.ex
  exact ⟨f, fd, a, b, c, d.len, fun c C p hc gC hz A out s H args us vs Q E hr => d.run c C p hc gC hz A out s H args us vs Q E (hr.mono h)⟩
theorem fnX_mk {x qual : Str} {st : Stmt} {f : Addr} {fd : FuncData} {N ps rs : List Str} {k np ns : Nat} {mb : Str → Int → MS} (F : Fun K x qual st f fd) (S : FnScope N ps (defScope st)) (hm : mg x = some (.ref f)) (hb : Binds K fd ps [])
    (h : ∀ (cdv : Value) (c : Str) (C : Addr) (p : Addr × Obj) (A : Around) (out : List PySem.Env) (s : Shared) (H : Hp) (E : XK), c ∈ rs → mg c = some (.ref C) → L2N.Zn (.ref C) none p.2 → L2H.Hot1 A p → L2H.RoomH k (A.deeper (envOfC qual (defScope st) s.heap.objs.size f cdv)) →
      SSs (cxE P w K mg base N qual (defScope st) f cdv A out s H E p) (fun cls dd _ H => E cls dd H) (defBody st) (mb c p.1))
    (hN : N.length = ns := by rfl) (hps : ps.length = np := by rfl) (hnp : np ≤ ns := by decide) : FnX P w K mg base (k + 1) x ps rs (fun c a => mkFn np ns (mb c a)) := by
  refine ⟨f, fd, hm, F.kp, hb, ?_⟩
  obtain ⟨oc, od, kV, doc, pm, an, cdv, ct, osl, rfl, lk, hcd⟩ := F.ex
  exact fnE_of lk hcd S hN hps hnp fun c C p A out s H E => h cdv c C p A out s H E
end
/-! ### x = f(e) in a suite -/
section
variable {X : Cx} {k : Nat} {x : Str} {ps rs : List Str} {fw : Str → Int → Fn} {a : Addr} {oe : Obj} {pn : List (Addr × Obj)} {q pos : Pos} {e : Expr} {t : TA}
theorem pe_callX (F : FnX X.prog X.w X.K X.mg X.base k x ps rs fw) (hr : Room k X.A) {c : Str} {C : Addr} (hc : c ∈ rs) (gC : X.mg c = some (.ref C)) (hz : L2N.Zn (.ref C) none oe) (hf : ∃ vs, oe.data = .fields vs) (hg : Gl X x)
    (ha : PA (X.suite a ((a, oe) :: pn)) [e] t) (hdb : (x == ("__debug__" : Str)) = false := by decide) (he : starEach [e] X.env = (false, eval e X.env) :: starEach [] X.env := by rfl) (hpl : (backTo pos (starEach [] X.env)).any (·.1) = false := by rfl) :
    PE (X.suite a ((a, oe) :: pn)) (.Call (.Name x q) [e] [] pos) (fun σ H Q => t σ H fun vs H1 => spF X.K X.mg (fw c a) vs H1 Q fun _ _ _ => False) := by
  obtain ⟨f, fd, hm, hk, hb, F⟩ := F.ex
  refine ⟨fun pins s σ H Q I h => ?_⟩
  refine wpAny_Call_Name_kw (ld_glob I hg hm ?_ hdb)
  refine PySem.W.callWith_K (h₀ := X.base) I.ok.mod.kin hk (thn (ha.run pos pins s σ H _ I h) fun us s1 ⟨vs, H1, I1, r, w1⟩ => ⟨I1.kIn, ?_⟩) he hpl
  have nus : us.length = ps.length := by rw [← r.length]; exact F.len _ _ _ _ _ _ w1
  have bnd := hb s1 us I1.kIn (by simpa using nus)
  simp only [List.append_nil] at bnd
  have p1 := I1.pin (a, oe) (List.mem_append_left _ List.mem_cons_self)
  have pin : L2H.PinOk (X.suite a ((a, oe) :: pn)).stack H1 s1 (a, oe) := ⟨p1.1, p1.2.1, fun hm => (List.mem_cons.mp (I1.stkSub a hm)).elim p1.2.2.1 p1.2.2.2.1, p1.2.2.2.2⟩
  have hot : L2H.Hot1 (X.suite a ((a, oe) :: pn)).A (a, oe) := by
    obtain ⟨vs, hv⟩ := hf
    exact ⟨rfl, vs, hv, hz.2.2 vs hv⟩
  refine wpAny_call (codeAny_mono (F.run c C (a, oe) hc gC hz _ _ s1 H1 ⟨us, []⟩ us vs Q (fun _ _ _ => False) ⟨hr.dp, hr.un⟩ hot pin I1.env0 bnd r w1) ?_)
  intro res s' hq
  cases res with
  | error u => exact L2N.passAt (W := fun _ _ _ _ => False) takes0N σ pins H1 s1 u s' I1 hq
  | ok fl =>
    cases fl with
    | ret u => exact I1.after hq
    | next => exact hq.elim
    | brk => exact hq.elim
    | cont => exact hq.elim
end
/-! ### try: body, except HallError as e: x = f(e) -/
def mTryF (rs : List Str) (ix ie : Nat) (g : Str → D) (mb : MS) : MS := fun σ s => match mb σ s with
  | .ex x σ' s' => if x.2 = none ∧ x.1 ∈ rs ∧ ix < σ'.length ∧ ie < σ'.length then .nx (((σ'.set ie none).set ix (some (g x.1))).set ie none) s' else .bad
  | r => r
theorem EnvR.setU {K : PySem.W.Frag} {mg : Str → Option Value} {H : Hp} {ρ : List Addr} : ∀ {σm : Env} {σ : L2.St} {A F : Cnt} (i : Nat) (u : Option V), EnvR K mg H ρ σm σ A F → ∃ A' F', EnvR K mg H ρ (σm.set i none) (σ.set i u) A' F' ∧ ∀ x, A' x ≤ A x ∧ F' x ≤ F x
  | _, _, A, F, i, _, .nil a f => ⟨A, F, .nil a f, fun _ => ⟨Nat.le_refl _, Nat.le_refl _⟩⟩
  | _, _, A, F, 0, _, .no t => ⟨A, F, .no t, fun _ => ⟨Nat.le_refl _, Nat.le_refl _⟩⟩
  | _, _, A, F, i + 1, u, .no t => let ⟨A', F', r, q⟩ := EnvR.setU i u t; ⟨A', F', .no r, q⟩
  | _, _, A, F, 0, _, .yes h t e1 e2 => ⟨_, _, .no t, fun x => by rw [e1, e2]; omega⟩
  | _, _, A, F, i + 1, u, .yes h t e1 e2 => by
    obtain ⟨A', F', r, q⟩ := EnvR.setU i u t
    exact ⟨_, _, .yes h r (fun _ => rfl) (fun _ => rfl), fun x => by have := q x; rw [e1, e2]; omega⟩
theorem Rel.unsetU {K : PySem.W.Frag} {mg : Str → Option Value} {H : Hp} {ρ : List Addr} {σm : Env} {σ : L2.St} {A F : Cnt} {s : Sto} (i : Nat) (u : Option V) (r : Rel K mg σm s σ H ρ A F) : ∃ A' F', Rel K mg (σm.set i none) s (σ.set i u) H ρ A' F' ∧ ∀ x, A' x ≤ A x ∧ F' x ≤ F x := by
  obtain ⟨A', F', e, q⟩ := r.env.setU i u
  exact ⟨A', F', ⟨e, r.wd, fun x => by have := q x; have := r.sep x; exact ⟨by omega, fun z => by have := (r.sep x).2 (by omega); omega⟩⟩, q⟩
section
variable {X : Cx} {W : WX} {k ix ie : Nat} {x y n hx : Str} {ps rs : List Str} {fw : Str → Int → Fn} {g : Str → D} {body : List Stmt} {mb : MS} {np pos pos' q1 q2 q3 q4 q5 : Pos}
theorem ss_tryF (F : FnX X.prog X.w X.K X.mg X.base k x ps rs fw) (hr : Room k X.A) (hs : X.stack = X.env :: X.outer) (hf : X.env.frame = some X.env.locals) (nd : X.N.Nodup) (tk : L2N.Takes X W) {CH : Addr} (gH : X.mg hx = some (.ref CH))
    (hsub : ∀ c ∈ rs, ∀ C, X.mg c = some (.ref C) → PySem.W.exmOne X.K (.ref C) (.ref CH) = some true) (hcl : ∀ c ∈ rs, ∃ C, X.mg c = some (.ref C))
    (hg : ∀ c ∈ rs, ∀ (a : Int) (s : Sto), fw c a [.exc c (some a)] s = .ok (g c) s ∧ noF (g c) = true)
    (hb : ∀ (W' : WX) (pn : List (Addr × Obj)) (xe : Value → Shared → Prop), L2N.Takes (X.tr pn xe) W' → SSs (X.tr pn xe) W' body mb)
    (hi : X.N[ie]? = some n := by rfl) (hj : X.N[ix]? = some y := by rfl) (hln : X.env.kindOf n = some .local := by rfl) (hly : X.env.scope.names.lookup y = some .local := by rfl) (hgh : Gl X hx := by rfl) (hdh : (hx == ("__debug__" : Str)) = false := by decide)
    (hgx : Gl X x := by rfl) (hdx : (x == ("__debug__" : Str)) = false := by decide) (hdn : (n == ("__debug__" : Str)) = false := by decide) (hcn : (n == ("__classdict__" : Str)) = false := by decide)
    (hst : starEach [.Name n q3] X.env = (false, eval (.Name n q3) X.env) :: starEach [] X.env := by rfl)
    (hsw : swapsWith (.Call (.Name x q2) [.Name n q3] [] q4) (some (.Name y q1)) q5.line X.env = pure false := by rfl) :
    SS X W (.Try body [.ExceptHandler (some (.Name hx np)) (some n) [.Assign [.Name y q1] (.Call (.Name x q2) [.Name n q3] [] q4) q5] pos'] [] [] pos) (mTryF rs ix ie g mb) := by
  have hvn : Vis X.env.scope n := .inl hln
  refine PS.imp (L2N.ps_try_as (i := ie) (c := .ref CH) (tb := fun W' => rS X.K X.mg W' mb) (Wout := W)
    (ts := fun a cls dd D σ H => ∃ c C, c ∈ rs ∧ X.mg c = some (.ref C) ∧ cls = .ref C ∧ dd = none ∧ σ[ie]? = some (some (.ref a)) ∧ spF X.K X.mg (fw c a) [.ref a] H (fun v H3 => D.nx (σ.set ix (some v)) H3) fun _ _ _ => False)
    hs hf nd hi hln ⟨hgh, hdh, .inl gH⟩ tk (fun W' pn xe tk' _ => hb W' pn xe tk') fun a oe cls dd pn hz hfl => ?_) fun D σ H h => ?_
  · refine ⟨fun pins s σ H D I ⟨c, C, hc, gC, e1, e2, e3, sp⟩ => ?_⟩
    subst e1 e2
    have hv : PE (X.suite a ((a, oe) :: pn)) (.Name n q3) (tVar ie) := pe_var hi hvn hdn hcn
    have hP := ps_set (X := X.suite a ((a, oe) :: pn)) (i := ix) (pos' := q1) (pos := q5) nd hj (.inl hly) (pe_callX (pos := q4) (q := q2) F hr hc gC hz hfl hgx (pa_cons hv pa_nil hst) hdx hst rfl) hsw (.inr hly)
    exact (pss_one hP).run pins s σ H D I ⟨_, e3, sp⟩
  · obtain ⟨σm, s, ρ, A, Fz, rel, h⟩ := h
    refine ⟨σm, s, ρ, A, Fz, rel, ?_⟩
    unfold mTryF at h
    cases em : mb σm s with
    | bad => rw [em] at h; exact h
    | nx σ1 s1 => rw [em] at h; exact h
    | rt d s1 => rw [em] at h; exact h
    | bk σ1 s1 => rw [em] at h; exact h
    | ct σ1 s1 => rw [em] at h; exact h
    | ex xc σ1 s1 =>
      rw [em] at h
      dsimp only at h
      split at h
      · rename_i hh
        obtain ⟨h1, h2, h3, h6⟩ := hh
        intro cls dd σ' H' ρ' A' F' fr rel' nx rx
        obtain ⟨C, gC, e1, e2⟩ := rx
        rw [h1] at e2
        subst e1
        refine ⟨true, hsub _ h2 C gC, fun _ a na => ?_, fun z => by cases z⟩
        have hil : ie < σ'.length := by rw [← rel'.env.length]; exact h6
        refine ⟨_, C, h2, gC, rfl, e2, by rw [List.getElem?_set_self hil], ?_⟩
        obtain ⟨h4, h5⟩ := hg xc.1 h2 (a : Int) s1
        refine ⟨[.exc xc.1 (some (a : Int))], s1, ρ', c0, c0, rel'.wd, .cons (.exc (show (a : Int) = a from rfl) (fun _ => rfl) fun _ => rfl) (.nil (fun _ => rfl) fun _ => rfl) (fun _ => rfl) (fun _ => rfl), fun z => ⟨Nat.zero_le _, fun y => no0 y⟩, ?_⟩
        rw [h4]
        intro v H'' ρ'' a' f' fr2 wd2 rp2 out2
        obtain ⟨A2, F2, r2, q2'⟩ := Rel.unsetU ie (some (.ref a)) rel'
        have gd : Gd A2 F2 H' a' f' := fun z => by
          obtain ⟨g1, g2, g3⟩ := out2 z
          exact ⟨g1, fun y => ⟨(g2 y).1, (g2 y).2.resolve_right fun w => no0 w⟩, fun y => (g3 y).elim (fun w => no0 w) fun w => w.elim (fun w => no0 w) fun w => .inr (.inr w)⟩
        have r3 := Rel.next r2 fr2 wd2
        obtain ⟨A3, F3, r4, n4⟩ := Rel.set r2 fr2 wd2 rp2 gd (fun z => rp2.noF h5 z) ix (by rw [List.length_set]; exact h3)
        obtain ⟨A5, F5, r5, q5'⟩ := Rel.unsetU ie none r4
        refine h _ H'' ρ'' A5 F5 (fr.thenN nx (fr2.mono fun z y => no0 y)) r5 fun z => ?_
        have a1 := q5' z
        have a2 := n4 z
        have a3 := q2' z
        have a4 := nx z
        have th : H' z = none → H z = none := fr.there z
        refine ⟨fun y => ?_, fun y => ?_⟩
        · rcases a2.1 (by omega) with w | w
          · exact a4.1 (by omega)
          · exact .inr (th w)
        · rcases a2.2 (by omega) with w | w | w
          · exact (a4.1 (by omega)).imp_right .inr
          · exact a4.2 (by omega)
          · exact .inr (.inr (th w))
      · exact h.elim
end
end Zm
set_option Elab.async false
set_option linter.all false
set_option maxRecDepth 100000
set_option maxHeartbeats 2000000
set_option autoImplicit false
/-! ZX5: the machine's rules while an exception is handled. -/
namespace Zm
open PySem PySem.Spec PyProof.Rows L2 HotX
section
variable {X : Cx} {W : WX} {pos p : Pos}
theorem PIH.imp {tg e : Expr} {t t' : TI} (h : L2H.PIH X tg e t) (q : ∀ σ H Q, t' σ H Q → t σ H Q) : L2H.PIH X tg e t' := ⟨fun pins s σ H Q I w => h.run pins s σ H Q I (q σ H Q w)⟩
theorem si_listH {tge e : Expr} {m : M} (he : SE X W e m) : L2H.PIH X tge e (rI X.K X.mg W false (iL m)) := by
  constructor
  intro pins s0 σ H R I ⟨σm, s, ρ, A, F, rel, h⟩
  unfold iL at h
  have key : ∀ (Q : VK), oE X.K X.mg W σ A F H ρ Q (m σm s) → rE X.K X.mg W m σ H Q := fun Q q => ⟨σm, s, ρ, A, F, rel, q⟩
  cases em : m σm s with
  | bad => rw [em] at h; exact h.elim
  | ex x s1 =>
    rw [em] at h
    exact (pi_listHot he).run pins s0 σ H R I (key _ (by rw [em]; exact h))
  | ok d s1 =>
    rw [em, Zm.R.bind_ok] at h
    cases d with
    | lst o ds =>
      refine (pi_listHot he).run pins s0 σ H R I (key _ ?_)
      rw [em]
      intro v H1 ρ1 a f fr wd rp gd
      obtain ⟨b, p, vs, f', ev, sq, t, th, b1, b2, g, le, q, stay⟩ := sq_of (xs := fzs ds) rfl rp
      have hb : b = false := by cases b with
        | false => rfl
        | true => obtain ⟨_, z⟩ := b1 rfl; cases z
      subst hb
      exact ⟨p, ev, ⟨vs, sq⟩, h _ H1 ρ1 g fr wd (it_row t le (g_there rp q) stay walk_list) (gd_src gd q)⟩
    | _ => exact h.elim
theorem sg_t2H {e1 e2 : Expr} {k : Nat} {a b : Tg} (hc : HotC X) (h1 : SG X e1 a) (h2 : SG X e2 b) (hs1 : (assignEach [e1, e2] X.env).map (·.2) = assign e1 X.env :: (assignEach [e2] X.env).map (·.2) := by rfl) (hs2 : (assignEach [e2] X.env).map (·.2) = assign e2 X.env :: (assignEach [] X.env).map (·.2) := by rfl)
    (hn : (assignEach [e1, e2] X.env).length = 2 := by rfl) (hst : (assignEach [e1, e2] X.env).findIdx? (·.1) = none := by rfl) : SG X (.Tuple [e1, e2] k pos) (.t2 a b) :=
  PG.imp (pg_tupH hc (pgs_cons h1 (pgs_cons h2 pgs_nil hs2) hs1) hn hst) fun v σ H Q ⟨σm, s, ρ, A, F, d, f, rel, rp, dj, σ1, e, h⟩ => by
    match d, rp, e with
    | .tup [x, y], .tup hp r, e =>
      obtain ⟨vx, vy, ax, fx, ay, fy, rfl, rx, ry, q⟩ := r.inv2
      have e : (a.bind x σm).bind (fun σ1 => b.bind y σ1) = some σ1 := e
      cases ea : a.bind x σm with
      | none => rw [ea] at e; cases e
      | some σa =>
        rw [ea] at e
        have e : b.bind y σa = some σ1 := e
        have zx : ax = c0 := funext fun x => by have := (q x).1; have z0 : c0 x = 0 := rfl; omega
        have zy : ay = c0 := funext fun x => by have := (q x).1; have z0 : c0 x = 0 := rfl; omega
        subst zx zy
        refine ⟨_, _, rfl, SqT.of hp, rfl, vx, _, rfl, ⟨σm, s, ρ, A, F, x, fx, rel, rx, fun p hp => dj p (by have := q p; omega), σa, ea, fun σ2 A2 F2 rel2 le2 ch2 => ?_⟩⟩
        refine ⟨vy, _, rfl, ⟨σa, s, ρ, A2, F2, y, fy, rel2, ry, fun p hp => by have := dj p (by have := q p; omega); have := le2 p; omega, σ1, e, fun σ3 A3 F3 rel3 le3 ch3 => ?_⟩⟩
        exact ⟨rfl, h σ3 A3 F3 rel3 (fun p => ⟨by have := le2 p; have := le3 p; omega, fun z => by
          have q0 := q p
          rcases (le3 p).2 z with w | w
          · rcases (le2 p).2 w with u | u
            · exact .inl u
            · exact .inr (by omega)
          · exact .inr (by omega)⟩) (ch2.trans ch3)⟩
theorem s_lcH {tge elt iter : Expr} {ifs : List Expr} {scope : Scope} {own : List (Str × Nat)} {src : Src} {tg : Tg} {t : T} {m : M} (hc : HotC X) (nd : X.N.Nodup) (hi : L2H.PIH X tge iter (rI X.K X.mg W false src)) (ok : BlkOk X.N X.env.scope scope own)
    (hg : ∀ (s : Shared) (H : Hp) (C : Addr) (cl : List (Str × Addr)) (fp : List Addr), SG (blkP X s H scope (compEnvC scope cl C X.env) fp) tge tg)
    (ht : ∀ (s : Shared) (H : Hp) (C : Addr) (cl : List (Str × Addr)) (fp : List Addr), STs (blkP X s H scope (compEnvC scope cl C X.env) fp) W0 ifs t)
    (he : ∀ (s : Shared) (H : Hp) (C : Addr) (cl : List (Str × Addr)) (fp : List Addr), SE (blkP X s H scope (compEnvC scope cl C X.env) fp) W0 elt m) (hs : ∀ x, foldedSetIterable iter X.env x = pure x := by intro _; rfl) :
    SE X W (.ListComp elt [⟨tge, iter, ifs, 0⟩] scope pos) (mLc src tg (own.map (·.2)) t m) :=
  PE.imp (pe_lcH (g := rG X.K X.mg tg) (tt := rT X.K X.mg W0 t) (te := rE X.K X.mg W0 m) hc nd hi ok hg ht he hs) fun σ H Q h => rE_lc h
theorem s_isX {ts : List Str} {c0 : Str} {C : Addr} {p0 : Addr × Obj} {e : Expr} {es : List Expr} {ms : List M} (T : XTab X.K X.mg ts c0) (gC : X.mg c0 = some (.ref C)) (hp : p0 ∈ X.pn) (hz : L2N.Zn (.ref C) none p0.2) (hf : L2H.Hot1 X.A p0) (hm : X.mg "isinstance" = none) (ha : SA X W (e :: es) ms)
    (hg : Gl X "isinstance" := by rfl) (hb : bootBuiltins "isinstance" = some (.builtin "isinstance") := by rfl)
    (he : starEach (e :: es) X.env = (false, eval e X.env) :: starEach es X.env := by rfl) (hpl : (backTo pos (starEach es X.env)).any (·.1) = false := by rfl) : SE X W (.Call (.Name "isinstance" p) (e :: es) [] pos) (mOp (gIsX ts c0 p0.1) ms) :=
  s_blt (hg := hg) (he := he) (hpl := hpl) (call_isH (T.cls C gC).1 hp hz ⟨_, hf.2.choose_spec.1⟩) (v_isX T gC) hm hb ha
theorem hot_of {p0 : Addr × Obj} (h : L2H.Hot1 X.A p0) (hp : p0 ∈ X.pn) : HotC X := ⟨p0, h, hp⟩
end
/-! ### isinstance(e, (C1, C2, ..)) -/
def fnNames : List D → Option (List Str)
  | [] => some []
  | .fn t :: r => (fnNames r).map (t :: ·)
  | _ => none
def gIsXT (ts : List Str) (c0 : Str) (a0 : Int) : Sto → List D → Option D := fun _ ds => match ds with
  | [.exc c (some a), .tup xs] => match fnNames xs with
    | some l => if c = c0 ∧ a = a0 ∧ ∀ t ∈ l, t ∈ ts then some (.bl (l.any fun t => exSub c t)) else none
    | none => none
  | _ => none
section
variable {X : Cx} {W : WX} {pos p : Pos}
end
/-! ### a, b, .. = a list -/
section
variable {X : Cx} {pos : Pos}
end
/-! ### facts, from simpler ones -/
section
variable {K : PySem.W.Frag} {C T : Addr} {b : Bool}
theorem kit_sub (h0 : PySem.W.subIn K (.ref C) (.ref C) = some true) (h1 : PySem.W.isClsIn K T = true) (h2 : PySem.W.typeIn K (.ref T) = some (.type "type")) (h3 : PySem.W.subIn K (.ref C) (.ref T) = some b) : PySem.W.kitOne K (.ref C) (.ref T) = some b := by
  unfold PySem.W.kitOne
  by_cases z : (Value.ref C == Value.ref T) = true
  · have e : C = T := by simpa using z
    subst e
    rw [h0] at h3
    rw [if_pos z, h3]
  · rw [if_neg z]
    unfold PySem.W.kitCls
    have e2 : ((PySem.W.clsIn K T).isSome && PySem.W.typeIn K (.ref T) == some (.type "type")) = true := by
      rw [h2, show (PySem.W.clsIn K T).isSome = true from h1]; rfl
    dsimp only
    rw [if_pos e2]; exact h3
theorem kit_ve (h3 : PySem.W.subIn K (.ref C) (.type "ValueError") = some b) : PySem.W.kitOne K (.ref C) (.type "ValueError") = some b := by
  unfold PySem.W.kitOne
  rw [if_neg (show ¬ (Value.ref C == Value.type "ValueError") = true from Bool.false_ne_true)]
  unfold PySem.W.kitCls
  dsimp only
  rw [if_pos (by decide)]; exact h3
end
end Zm
set_option Elab.async false
set_option linter.all false
set_option maxRecDepth 100000
set_option autoImplicit false
/-! ZX6: texts joined. -/
namespace Zm
open PySem PySem.Spec PyProof.Rows L2
section
variable {K : PySem.W.Frag} {mg : Str → Option Value} {H : Hp} {ρ : List Addr}
end
section
variable {X : Cx} {W : WX} {o e : Expr} {mo me : M} {apos cpos : Pos}
end
/-! ### a number among those of a tuple -/
end Zm
set_option Elab.async false
set_option linter.all false
set_option maxRecDepth 100000
set_option autoImplicit false
/-! ZX7: xs[j] = F(box, xs[j]). -/
namespace Zm
open PySem PySem.Spec PyProof.Rows L2
section
variable {K : PySem.W.Frag} {mg : Str → Option Value} {W : WX} {H : Hp} {σ : L2.St} {D : Ends} {fn : Fn} {i ia j : Nat}
end
section
variable {X : Cx} {W : WX} {k : Nat} {f x xa xj : Str} {ps : List Str} {m : Fn} {pos pos' p1 p2 p3 p4 p5 spos spos2 bpos : Pos}
end
end Zm
set_option Elab.async false
set_option linter.all false
set_option maxRecDepth 100000
set_option autoImplicit false
/-! ZX8: F(x).index(t, p), F telling a new tuple of numbers. -/
namespace Zm
open PySem PySem.Spec PyProof.Rows L2
/-! ### a new tuple, its object known -/
/-! ### its place of a number, from a place on -/
/-! ### defs that tell such -/
def spT (K : PySem.W.Frag) (mg : Str → Option Value) (m : Fn) : Sp := fun vs H Q E => ∃ ds s ρ a f, Wd K mg ρ s H ∧ Reps K mg H ρ ds vs a f ∧ Sp1 a f ∧ match m ds s with
  | .ok (.tup es) s' => ∃ ns, toI es = some ns ∧ ∀ (p : Addr) (H' : Hp) (ρ' : List Addr) (o : Obj), Fr a H H' ρ ρ' → Wd K mg ρ' s' H' → H' p = some (.frz o (.tup (ns.map V.int))) → o.cls = .type "tuple" → o.dict = none → Q (.ref p) H'
  | .ex x s' => ∀ cls dd H' ρ', Fr a H H' ρ ρ' → Wd K mg ρ' s' H' → RepX mg H' x cls dd → E cls dd H'
  | _ => False
structure FnT (P : Program) (w : World) (K : PySem.W.Frag) (mg : Str → Option Value) (base : Heap) (k : Nat) (x : Str) (ps : List Str) (m : Fn) : Prop where
  ex : ∃ f fd, mg x = some (.ref f) ∧ PySem.W.keepIn K (.ref f) = true ∧ Binds K fd ps [] ∧ FnG P w K mg base k f fd ps (spT K mg m)
section
variable {P : Program} {w : World} {K : PySem.W.Frag} {mg : Str → Option Value} {base : Heap}
theorem FnT.mono {j k : Nat} {x : Str} {ps : List Str} {m : Fn} (F : FnT P w K mg base j x ps m) (h : j ≤ k) : FnT P w K mg base k x ps m := by
  obtain ⟨f, fd, a, b, c, d⟩ := F.ex
  exact ⟨f, fd, a, b, c, d.mono h⟩
end
section
variable {K : PySem.W.Frag} {mg : Str → Option Value} {W : WX} {H : Hp} {σ : L2.St} {Q : VK} {fn : Fn} {m1 mt mp : M}
end
section
variable {X : Cx} {W : WX} {k : Nat} {x : Str} {ps : List Str} {fn : Fn} {e1 e2 e3 : Expr} {m1 mt mp : M} {p cp apos cpos : Pos}
end
end Zm
set_option Elab.async false
set_option linter.all false
set_option maxRecDepth 100000
set_option autoImplicit false
/-! ZX9: sorted(a tuple of numbers). -/
namespace Zm
open PySem PySem.Spec PyProof.Rows L2
end Zm
set_option Elab.async false
set_option linter.all false
set_option maxRecDepth 100000
set_option autoImplicit false
/-! ZR: repr of data in which an empty dict may stand. -/
namespace Zm
open PySem PySem.Spec PyProof.Rows L2
mutual
def pz : D → Option PyData
  | .non => some .none
  | .bl b => some (.bool b)
  | .int i => some (.int i)
  | .str x => some (.str x)
  | .tup xs => (pzs xs).map .tuple
  | .lst _ xs => (pzs xs).map .list
  | .ro ns => some (.list (ns.map .int))
  | .dic _ _ [] _ => some (.dict [])
  | .dic _ _ (_ :: _) _ => none
  | .box _ => none | .fn _ => none | .ty _ => none | .exc _ _ => none
def pzs : List D → Option (List PyData)
  | [] => some []
  | x :: xs => match pz x, pzs xs with
    | some y, some ys => some (y :: ys)
    | _, _ => none
end
mutual
theorem pz_fz : ∀ d : D, pz (fz d) = pz d
  | .non => rfl | .bl _ => rfl | .int _ => rfl | .str _ => rfl | .box _ => rfl | .fn _ => rfl | .ty _ => rfl | .exc _ _ => rfl | .ro _ => rfl
  | .dic _ _ [] _ => rfl | .dic _ _ (_ :: _) _ => rfl
  | .tup xs => by show (pzs (fzs xs)).map _ = (pzs xs).map _; rw [pzs_fz xs]
  | .lst o xs => by show (pzs (fzs xs)).map _ = (pzs xs).map _; rw [pzs_fz xs]
theorem pzs_fz : ∀ xs : List D, pzs (fzs xs) = pzs xs
  | [] => rfl
  | x :: xs => by
    show (match pz (fz x), pzs (fzs xs) with
      | some y, some ys => some (y :: ys)
      | _, _ => none) = (match pz x, pzs xs with
      | some y, some ys => some (y :: ys)
      | _, _ => none)
    rw [pz_fz x, pzs_fz xs]
end
mutual
theorem pz_pd : ∀ {d : D} {x : PyData}, pd d = some x → pz d = some x
  | .non, _, h => h | .bl _, _, h => h | .int _, _, h => h | .str _, _, h => h | .ro _, _, h => h
  | .box _, _, h => by cases h
  | .fn _, _, h => by cases h
  | .ty _, _, h => by cases h
  | .exc _ _, _, h => by cases h
  | .dic _ _ _ _, _, h => by cases h
  | .tup xs, _, h => by
    rw [pd, Option.map_eq_some_iff] at h
    obtain ⟨ys, e, rfl⟩ := h
    rw [pz, pzs_pd e]; rfl
  | .lst o xs, _, h => by
    rw [pd, Option.map_eq_some_iff] at h
    obtain ⟨ys, e, rfl⟩ := h
    rw [pz, pzs_pd e]; rfl
theorem pzs_pd : ∀ {ds : List D} {xs : List PyData}, pds ds = some xs → pzs ds = some xs
  | [], _, h => h
  | d :: ds, _, h => by
    rw [pds] at h
    cases e1 : pd d with
    | none => rw [e1] at h; cases h
    | some y =>
      cases e2 : pds ds with
      | none => rw [e1, e2] at h; cases h
      | some ys =>
        rw [e1, e2] at h; cases h
        rw [pzs, pz_pd e1, pzs_pd e2]
end
/-! data, an empty dict may stand in it -/
mutual
inductive Sh (K : PySem.W.Frag) (H : Hp) : V → PyData → Prop
  | non : Sh K H .non .none
  | bl (b : Bool) : Sh K H (.bl b) (.bool b)
  | int (i : Int) : Sh K H (.int i) (.int i)
  | str (x : Str) : Sh K H (.str x) (.str x)
  | lst {a : Addr} {xs : List V} {ds : List PyData} : SqL K H a xs → ShL K H xs ds → Sh K H (.ref a) (.list ds)
  | tup {a : Addr} {xs : List V} {ds : List PyData} : SqT K H a xs → ShL K H xs ds → Sh K H (.ref a) (.tuple ds)
  | dic {a : Addr} {t : Bool} {ws : List V} : DicRd H t a [] ws → Sh K H (.ref a) (.dict [])
inductive ShL (K : PySem.W.Frag) (H : Hp) : List V → List PyData → Prop
  | nil : ShL K H [] []
  | cons {v : V} {vs : List V} {d : PyData} {ds : List PyData} : Sh K H v d → ShL K H vs ds → ShL K H (v :: vs) (d :: ds)
end
theorem ShL.ints {K : PySem.W.Frag} {H : Hp} : ∀ ns : List Int, ShL K H (ns.map V.int) (ns.map .int)
  | [] => .nil
  | n :: ns => .cons (.int n) (ShL.ints ns)
section
variable {K : PySem.W.Frag} {mg : Str → Option Value} {H : Hp} {ρ : List Addr}
mutual
theorem Rep.sh : ∀ {d : D} {v : V} {a f : Cnt} {x : PyData}, pz d = some x → Rep K mg H ρ d v a f → Sh K H v x
  | .non, _, _, _, _, e, h => by cases h; cases e; exact .non
  | .bl _, _, _, _, _, e, h => by cases h; cases e; exact .bl _
  | .int _, _, _, _, _, e, h => by cases h; cases e; exact .int _
  | .str _, _, _, _, _, e, h => by cases h; cases e; exact .str _
  | .tup xs, _, _, _, _, e, h => by
    rw [pz, Option.map_eq_some_iff] at e
    obtain ⟨ys, e1, rfl⟩ := e
    cases h with
    | tup q t => exact .tup (SqT.of q) (Reps.sh e1 t)
  | .lst _ xs, _, _, _, _, e, h => by
    rw [pz, Option.map_eq_some_iff] at e
    obtain ⟨ys, e1, rfl⟩ := e
    obtain ⟨p, vs, a1, f1, rfl, hp, t, _⟩ := inv_lst h
    exact .lst (SqL.of hp) (Reps.sh e1 t)
  | .ro ns, _, _, _, _, e, h => by
    cases e
    cases h with
    | ro q _ _ => exact .lst q.L (ShL.ints ns)
  | .dic _ _ [] _, _, _, _, _, e, h => by
    cases e
    obtain ⟨p, ws, rfl, hd, _⟩ := inv_dic h
    exact .dic hd
  | .dic _ _ (_ :: _) _, _, _, _, _, e, _ => by cases e
  | .box _, _, _, _, _, e, _ => by cases e
  | .fn _, _, _, _, _, e, _ => by cases e
  | .ty _, _, _, _, _, e, _ => by cases e
  | .exc _ _, _, _, _, _, e, _ => by cases e
theorem Reps.sh : ∀ {ds : List D} {vs : List V} {a f : Cnt} {xs : List PyData}, pzs ds = some xs → Reps K mg H ρ ds vs a f → ShL K H vs xs
  | [], _, _, _, _, e, h => by cases h; cases e; exact .nil
  | d :: ds, _, _, _, _, e, h => by
    rw [pzs] at e
    cases e1 : pz d with
    | none => rw [e1] at e; cases e
    | some y =>
      cases e2 : pzs ds with
      | none => rw [e1, e2] at e; cases e
      | some ys =>
        rw [e1, e2] at e
        cases e
        cases h with
        | cons h t _ _ => exact .cons (Rep.sh e1 h) (Reps.sh e2 t)
end
end
section
variable {X : Cx} {pins : List (Addr × Obj)} {σ : L2.St} {H : Hp} {s : Shared}
/-- how an empty dict stands in the heap -/
theorem dic_nil (I : Inv X pins σ H s) {t : Bool} {a : Addr} {ws : List V} (h : DicRd H t a [] ws) : (a == sysModules) = false ∧ ∃ o ep, s.heap.get? a = some o ∧ o.cls = .type "dict" ∧ o.data = .dict #[] ep := by
  obtain ⟨u, rd, q⟩ := h
  cases t with
  | false =>
    obtain ⟨kvs, rfl, e1, _⟩ := q
    cases kvs with
    | cons k ks => cases e1
    | nil =>
      obtain ⟨_, hs, vs, kv, o, es, ep, h1, h2, h3, _, h5, _⟩ := dk_rd I.hok rd
      refine ⟨hs, o, ep, h1, h2.1, ?_⟩
      cases kv
      have : es.toList = [] := by
        generalize es.toList = l at h5
        cases h5; rfl
      rw [h3, Array.toList_eq_nil_iff.mp this]
  | true =>
    obtain ⟨kvs, rfl, e1, _⟩ := q
    cases kvs with
    | cons k ks => cases e1
    | nil =>
      obtain ⟨_, hs, xs, kv, o, es, ep, h1, h2, h3, h4, _⟩ := dt_rd I.hok rd
      refine ⟨hs, o, ep, h1, h2.1, ?_⟩
      cases kv
      rw [h3, Array.toList_eq_nil_iff.mp (show es.toList = [] from h4)]
abbrev RdAt (X : Cx) (s : Shared) (u : Value) (d : PyData) : Prop := ∃ as bs, Reads s.heap u d as ∧ ReadAtMost s.heap d.depth bs ∧ ReprK X.prog X.w bs s.heap d.depth u d.shown
abbrev RdAll (X : Cx) (s : Shared) (us : List Value) (ds : List PyData) : Prop := ∃ as bs, ReadsAll s.heap us ds as ∧ ReadAtMost s.heap (PyData.depthAll ds) bs ∧ ReprAllK X.prog X.w bs s.heap (PyData.depthAll ds) us (PyData.shownAll ds)
mutual
theorem Sh.rd (I : Inv X pins σ H s) : ∀ {v : V} {d : PyData} {u : Value}, Sh X.K H v d → RelV v u → d.showable = true → d.shown.length ≤ sizeLine → RdAt X s u d
  | _, _, _, .non, r, _, _ => by
    cases r
    exact ⟨_, [], .none, fun _ z => (List.not_mem_nil z).elim, by rw [PyData.shown]; exact .of_is .none _ _ _⟩
  | _, _, _, .bl b, r, _, _ => by
    cases r
    exact ⟨_, [], .bool b, fun _ z => (List.not_mem_nil z).elim, by rw [PyData.shown]; exact .of_is (.bool b) _ _ _⟩
  | _, _, _, .int i, r, hs, _ => by
    obtain ⟨t, rfl⟩ := r
    rw [PyData.showable, decide_eq_true_eq] at hs
    exact ⟨_, [], .int i t, fun _ z => (List.not_mem_nil z).elim, by rw [PyData.shown]; exact .of_is (ReprIs.int t hs) _ _ _⟩
  | _, _, _, .str x, r, _, hz => by
    obtain ⟨t, rfl⟩ := r
    rw [PyData.shown] at hz
    exact ⟨_, [], .str x t, fun _ z => (List.not_mem_nil z).elim, by rw [PyData.shown]; exact .of_is (ReprIs.str x t hz) _ _ _⟩
  | _, _, _, .lst (ds := ds) hq ha, r, hs, hz => by
    cases r
    rw [PyData.showable] at hs
    rw [PyData.shown] at hz
    obtain ⟨its, rv, ⟨o, n, ho, hc, _, hd⟩, _⟩ := I.list hq
    obtain ⟨as, bs, q1, q2, q3⟩ := ShL.rd I ha rv hs fun t ht => Nat.le_trans (listText_mem_le ht) hz
    have rr : Reads s.heap (.ref _) (.list ds) (_ :: as) := Reads.list ho hc hd q1
    have deep : PyData.depthAll ds < (PyData.list ds).depth := by rw [PyData.depth]; omega
    have out := not_mem_of_deeper rr deep q2
    refine ⟨_, _, rr, ReadAtMost.cons rr (Nat.le_of_lt deep) q2, ?_⟩
    rw [PyData.depth, PyData.shown]
    cases its with
    | nil =>
      cases q1
      rw [PyData.shownAll, listText_nil]
      exact .listEmpty ho hc hd
    | cons y ys =>
      refine .list ho hc hd out ?_ fun i z e => q3.item i z (by simpa using e)
      rw [q3.length_eq]; simp
  | _, _, _, .tup (ds := ds) hq ha, r, hs, hz => by
    cases r
    rw [PyData.showable] at hs
    rw [PyData.shown] at hz
    obtain ⟨its, rv, ⟨o, ho, hc, n, hd⟩, _⟩ := I.tuple hq
    obtain ⟨as, bs, q1, q2, q3⟩ := ShL.rd I ha rv hs fun t ht => Nat.le_trans (tupleText_mem_le ht) hz
    have rr : Reads s.heap (.ref _) (.tuple ds) as := Reads.tuple ho hc hd q1
    have deep : PyData.depthAll ds < (PyData.tuple ds).depth := by rw [PyData.depth]; omega
    have out := not_mem_of_deeper rr deep q2
    refine ⟨_, _, rr, ReadAtMost.cons rr (Nat.le_of_lt deep) q2, ?_⟩
    rw [PyData.depth, PyData.shown]
    exact .tuple ho hc hd out q3
  | _, _, _, .dic h, r, _, _ => by
    cases r
    obtain ⟨hs, o, ep, h1, h2, h3⟩ := dic_nil I h
    have rr : Reads s.heap (.ref _) (.dict []) _ := Reads.dict h1 h2 h3 (.nil) (.nil)
    refine ⟨_, _, rr, ReadAtMost.cons rr (Nat.zero_le _) (n := 0) (bs := []) fun _ z => (List.not_mem_nil z).elim, ?_⟩
    rw [PyData.depth, PyData.shown, PyData.shownKv]
    exact .dict h1 h2 h3 hs List.not_mem_nil .nil
theorem ShL.rd (I : Inv X pins σ H s) : ∀ {vs : List V} {ds : List PyData} {us : List Value}, ShL X.K H vs ds → Vals vs us → PyData.showableAll ds = true → (∀ t ∈ PyData.shownAll ds, t.length ≤ sizeLine) → RdAll X s us ds
  | _, _, _, .nil, r, _, _ => by
    cases r
    exact ⟨_, [], .nil, fun _ z => (List.not_mem_nil z).elim, by rw [PyData.shownAll]; exact .nil⟩
  | _, _, _, .cons h1 h2, r, hs, hz => by
    cases r with
    | cons r1 r2 =>
      rw [PyData.showableAll, Bool.and_eq_true] at hs
      rw [PyData.shownAll] at hz
      obtain ⟨as, bs, a1, a2, a3⟩ := Sh.rd I h1 r1 hs.1 (hz _ List.mem_cons_self)
      obtain ⟨as', bs', b1, b2, b3⟩ := ShL.rd I h2 r2 hs.2 fun t ht => hz t (List.mem_cons_of_mem _ ht)
      refine ⟨_, bs ++ bs', .cons a1 b1, ?_, ?_⟩
      · rw [PyData.depthAll]
        exact (a2.mono (Nat.le_max_left _ _)).append (b2.mono (Nat.le_max_right _ _))
      · rw [PyData.depthAll, PyData.shownAll]
        exact .cons ((a3.more fun _ z => List.mem_append_left _ z).level_le (Nat.le_max_left _ _)) (b3.more_le (fun _ z => List.mem_append_right _ z) (Nat.le_max_right _ _))
end
end
def gReprZ : Sto → List D → Option D := fun _ ds => match ds with
  | [d] => (pz d).bind fun x => if x.showable = true ∧ x.depth ≤ 60 ∧ x.shown.length ≤ sizeLine then some (.str x.shown) else none
  | _ => none
def rReprY (K : PySem.W.Frag) : List V → Hp → VK → Prop := fun xs H Q => ∃ x d, xs = [x] ∧ Sh K H x d ∧ d.showable = true ∧ d.depth ≤ 60 ∧ d.shown.length ≤ sizeLine ∧ Q (.str d.shown) H
section
variable {X : Cx} {K : PySem.W.Frag} {mg : Str → Option Value}
theorem cr_reprZ (hu : X.A.units + 64 < cLine) (hg : X.A.guards = some []) : CallR X (.builtin "repr") (rReprY X.K) := by
  intro pins s σ H xs us Q I r h
  obtain ⟨x, d, rfl, hd, h1, h3, h4, q⟩ := h
  obtain ⟨u, rfl, ru⟩ := vals1 r
  cases hd with
  | non =>
    cases ru
    rw [PyData.shown] at q
    exact PySem.P.repr_of_none ⟨.str _, H, I.tok _, ⟨_, rfl⟩, q⟩
  | bl b =>
    cases ru
    refine PySem.P.repr_of_bool ⟨.str _, H, I.tok _, ⟨_, rfl⟩, ?_⟩
    cases b <;> (simp only [PyData.shown] at q; exact q)
  | int i =>
    obtain ⟨t, rfl⟩ := ru
    have hz : i.natAbs.log2 < 1920 := by simpa [PyData.showable] using h1
    exact PySem.P.repr_of_int hz ⟨.str _, H, I.tok _, ⟨_, rfl⟩, by simpa only [PyData.shown] using q⟩
  | str z =>
    obtain ⟨t, rfl⟩ := ru
    exact PySem.P.repr_of_str ⟨.str _, H, I.tok _, ⟨_, rfl⟩, by simpa only [PyData.shown] using q⟩ (by simpa only [PyData.shown] using h4)
  | @lst a xs ds hq ha =>
    cases ru
    rw [PyData.showable] at h1
    rw [PyData.shown] at h4 q
    rw [PyData.depth] at h3
    obtain ⟨its, rv, ⟨o, n, ho, hc, _, hd⟩, _⟩ := I.list hq
    obtain ⟨as, bs, q1, q2, q3⟩ := ShL.rd I ha rv h1 fun t ht => Nat.le_trans (listText_mem_le ht) h4
    have rr : Reads s.heap (.ref a) (.list ds) (_ :: as) := Reads.list ho hc hd q1
    have out := not_mem_of_deeper rr (n := PyData.depthAll ds) (by rw [PyData.depth]; omega) q2
    refine call_repr_slot (by omega) ⟨o, ho, hc⟩ F.slot_list_repr.toG ?_
    cases its with
    | nil =>
      cases q1
      rw [PyData.shownAll, listText_nil] at q
      exact call_list_repr_empty ⟨o, ho, hc⟩ ho hd ⟨_, _, rfl, .str _, H, I.tok _, ⟨_, rfl⟩, q⟩
    | cons y ys =>
      refine call_list_reprK ho hc hd out ?_ (fun i z e => q3.item i z (by simpa using e)) (g := []) hg (fun b _ => Clear.nil b) (by show X.A.units + 1 + _ < _; omega) (fun _ _ e => e) (fun h' u tk hk => ⟨_, _, rfl, .str _, H, I.kept hk, ⟨_, rfl⟩, q⟩) h4
      rw [q3.length_eq]; simp
  | @tup a xs ds hq ha =>
    cases ru
    rw [PyData.showable] at h1
    rw [PyData.shown] at h4 q
    rw [PyData.depth] at h3
    obtain ⟨its, rv, ⟨o, ho, hc, n, hd⟩, _⟩ := I.tuple hq
    obtain ⟨as, bs, q1, q2, q3⟩ := ShL.rd I ha rv h1 fun t ht => Nat.le_trans (tupleText_mem_le ht) h4
    have rr : Reads s.heap (.ref a) (.tuple ds) as := Reads.tuple ho hc hd q1
    have out := not_mem_of_deeper rr (n := PyData.depthAll ds) (by rw [PyData.depth]; omega) q2
    refine call_repr_slot (by omega) ⟨o, ho, hc⟩ F.slot_tuple_repr ?_
    exact call_tuple_reprK ho hc hd out q3 (g := []) hg (fun b _ => Clear.nil b) (by show X.A.units + 1 + _ < _; omega) (fun _ _ e => e) (fun h' u tk hk => ⟨_, _, rfl, .str _, H, I.kept hk, ⟨_, rfl⟩, q⟩) h4
  | dic h =>
    cases ru
    rw [PyData.shown, PyData.shownKv] at h4 q
    obtain ⟨hs, o, ep, ho, hc, hd⟩ := dic_nil I h
    refine call_repr_slot (by omega) ⟨o, ho, hc⟩ F.slot_dict_repr ?_
    exact call_dict_reprK (d := 0) (as := []) ho hc hd hs List.not_mem_nil .nil (g := []) hg (fun b _ => Clear.nil b) (by show X.A.units + 1 + _ < _; omega) (fun _ _ e => e) (fun h' u tk hk => ⟨_, _, rfl, .str _, H, I.kept hk, ⟨_, rfl⟩, q⟩) h4
theorem v_reprZ : OpV K mg (rReprY K) gReprZ := by
  intro ρ s H ds vs a f d w r h e Q q
  unfold Zm.gReprZ at e
  split at e
  · rw [Option.bind_eq_some_iff] at e
    obtain ⟨x, e1, e2⟩ := e
    split at e2
    · rename_i z
      cases e2
      obtain ⟨v1, rfl, r1⟩ := r.inv1
      exact ⟨_, x, rfl, r1.sh e1, z.1, z.2.1, z.2.2, fin_str q⟩
    · cases e2
  · cases e
end
end Zm
set_option Elab.async false
set_option linter.all false
set_option maxRecDepth 100000
set_option autoImplicit false
namespace Zm
open PySem PySem.Spec PyProof.Rows L2
def f__law_dip : Fn := mkFn 2 4 (mSeq (mIf (tV (mOp gGt [(mOp gIx [(mVar 0), (mC (.int 0))]), (mC (.int 0))])) (mSeq (mSetD [true, true] 2 (mOp gMod [(mOp gIx [(mVar 0), (mC (.int 0))]), (mVar 1)])) (mSeq (mSt [true, true] 0 (mC (.int 0)) (mOp gDiv [(mOp gIx [(mVar 0), (mC (.int 0))]), (mVar 1)])) (mRetV 2))) mNil) (mSeq (mSt [true] 0 (mC (.int 2)) (mOp gAdd [(mOp gIx [(mVar 0), (mC (.int 2))]), (mC (.int 1))])) (mSeq (mSetD [true] 3 (mOp gMod [(mOp gPow [(mOp gAdd [(mOp gIx [(mVar 0), (mC (.int 1))]), (mOp gMul [(mC (.int 49979687)), (mOp gIx [(mVar 0), (mC (.int 2))])])]), (mC (.int 3))]), (mOp gAdd [(mOp gPow [(mC (.int 10)), (mC (.int 38))]), (mC (.int 133))])])) (mSeq (mSetD [true, false, false, true] 3 (mOp gMod [(mOp gPow [(mOp gAdd [(mVar 3), (mOp gMul [(mC (.int 160481183)), (mOp gIx [(mVar 0), (mC (.int 2))])])]), (mC (.int 3))]), (mOp gAdd [(mOp gPow [(mC (.int 10)), (mC (.int 35))]), (mC (.int 69))])])) (mRet (mOp gMod [(mOp gDiv [(mVar 3), (mC (.int 131071))]), (mVar 1)]))))))
/-- for spot in range(many) -/
def f__law_hall_b1 : MS := (mUpd uApp [true, false, false, true, true] 8 [(mOp gIx [(mOp gLst [(mCall f__law_dip [(mVar 0), (mC (.int 4))]), (mCall f__law_dip [(mVar 0), (mC (.int 12))]), (mCall f__law_dip [(mVar 0), (mVar 3)])]), (mCall f__law_dip [(mVar 0), (mOp gAdd [(mC (.int 1)), (mVar 4)])])])])
/-- for k in range(1 + _law_dip(well, counters)) -/
def f__law_hall_b2 : MS := (mSeq (mSetD [] 8 (mOp gLst [])) (mSeq (mForP (iR1 [(mVar 5)]) (.nm 9) f__law_hall_b1) (mUpd uApp [false, false, false, false, false, false, false, false, true] 6 [(mOp gTuple [(mVar 8)])])))
def f__law_hall : Fn := mkFn 4 10 (mSeq (mSetD [true] 4 (mCall f__law_dip [(mVar 0), (mC (.int 3))])) (mSeq (mSetD [true, false, true] 5 (mOp gAdd [(mC (.int 1)), (mCall f__law_dip [(mVar 0), (mVar 2)])])) (mSeq (mSetD [] 6 (mOp gLst [])) (mSeq (mForP (iR1 [(mOp gAdd [(mC (.int 1)), (mCall f__law_dip [(mVar 0), (mVar 1)])])]) (.nm 7) f__law_hall_b2) (mRet (mOp gTuple [(mVar 6)]))))))
def f_is_whole : Fn := mkFn 1 1 (mRet (mAnd (mOp gIsi [(mVar 0), (mC (.ty "int"))]) (mNot (mOp gIsi [(mVar 0), (mC (.ty "bool"))]))))
def f_is_amount : Fn := mkFn 1 1 (mRet (mAnd (mCall f_is_whole [(mVar 0)]) (mOp gGe [(mVar 0), (mC (.int 0))])))
/-- [is_amount(one) for one in thing] -/
def f_is_row_c1 : M := mLc (iSeq (mVar 0)) (.nm 2) [2] tTrue (mCall f_is_amount [(mVar 2)])
def f_is_row : Fn := mkFn 2 3 (mRet (mAnd (mOp gIsi [(mVar 0), (mC (.ty "tuple"))]) (mAnd (mOp gEq [(mOp gLen [(mVar 0)]), (mVar 1)]) (mOp gAll [f_is_row_c1]))))
/-- [is_row(row, len(thing[0])) for row in thing] -/
def f_is_hall_c1 : M := mLc (iSeq (mVar 0)) (.nm 1) [1] tTrue (mCall f_is_row [(mVar 1), (mOp gLen [(mOp gIx [(mVar 0), (mC (.int 0))])])])
def f_is_hall : Fn := mkFn 1 2 (mSeq (mIf (tOr (tNot (tV (mOp gIsi [(mVar 0), (mC (.ty "tuple"))]))) (tOr (tNot (tV (mChain gLe gLe (mC (.int 1)) (mOp gLen [(mVar 0)]) (mC (.int 8))))) (tNot (tV (mOp gIsi [(mOp gIx [(mVar 0), (mC (.int 0))]), (mC (.ty "tuple"))]))))) (mRet (mC (.bl false))) mNil) (mRet (mAnd (mChain gLe gLe (mC (.int 1)) (mOp gLen [(mOp gIx [(mVar 0), (mC (.int 0))])]) (mC (.int 8))) (mOp gAll [f_is_hall_c1]))))
def f_need_hall : Fn := mkFn 1 1 (mIf (tNot (tV (mCall f_is_hall [(mVar 0)]))) mBadS mNil)
def f__law_cell_at : Fn := mkFn 2 2 (mSeq (mIf (tV (mOp gLt [(mVar 1), (mOp gLen [(mVar 0)])])) (mRet (mOp gIx [(mVar 0), (mVar 1)])) mNil) (mRet (mC (.int 0))))
def f_need_neighbours : Fn := mkFn 2 2 (mIf (tOr (tNot (tV (mCall f_is_amount [(mVar 1)]))) (tV (mOp gGe [(mVar 1), (mOp gSub [(mOp gLen [(mVar 0)]), (mC (.int 1))])]))) mBadS mNil)
def f_need_both : Fn := mkFn 2 2 (mSeq (mDo (mCall f_need_hall [(mVar 0)])) (mDo (mCall f_need_neighbours [(mVar 0), (mVar 1)])))
/-- for (here, there) in zip(hall[counter], hall[counter + 1]) -/
def f_leads_b1 : MS := (mSeq (mAug (fun a b => a + b) 3 (mOp gSub [(mVar 5), (mVar 4)])) (mSeq (mSetD [false, false, false, false, false, false, true] 4 (mVar 6)) (mUpd uApp [false, false, false, true] 2 [(mVar 3)])))
def f_leads : Fn := mkFn 2 7 (mSeq (mSetD [] 2 (mOp gLst [])) (mSeq (mSetD [] 3 (mC (.int 0))) (mSeq (mSetD [] 4 (mC (.int 0))) (mSeq (mFor [true, true] (iZip2 [(mOp gIx [(mVar 0), (mVar 1)]), (mOp gIx [(mVar 0), (mOp gAdd [(mVar 1), (mC (.int 1))])])]) (.t2 (.nm 5) (.nm 6)) f_leads_b1) (mRetV 2)))))
def f_greatest_lead : Fn := mkFn 2 2 (mRet (mOp gMaxA [(mCall f_leads [(mVar 0), (mVar 1)])]))
def f_can_move_by : Fn := mkFn 2 3 (mSeq (mSetD [true, true] 2 (mCall f_greatest_lead [(mVar 0), (mVar 1)])) (mRet (mOp gTup [(mVar 2), (mOp gSub [(mOp gAdd [(mVar 2), (mOp gSumA [(mOp gIx [(mVar 0), (mOp gAdd [(mVar 1), (mC (.int 1))])])])]), (mOp gSumA [(mOp gIx [(mVar 0), (mVar 1)])])])])))
def f_with_rows : Fn := mkFn 4 4 (mRet (mOp gAdd [(mOp gAdd [(mOp gSl01 [(mVar 0), (mVar 1)]), (mOp gTup [(mOp gTuple [(mVar 2)]), (mOp gTuple [(mVar 3)])])]), (mOp gSl10 [(mVar 0), (mOp gAdd [(mVar 1), (mC (.int 2))])])]))
/-- for (lead, there) in zip(leads(hall, counter), hall[counter + 1]) -/
def f_greatest_ways_b1 : MS := (mSeq (mSetD [false, false, false, true, false, true] 3 (mOp gMax2 [(mVar 3), (mVar 5)])) (mSeq (mAug (fun a b => a + b) 4 (mVar 6)) (mUpd uApp [false, false, false, true, true] 2 [(mOp gAdd [(mVar 3), (mVar 4)])])))
def f_greatest_ways : Fn := mkFn 2 7 (mSeq (mSetD [] 2 (mOp gLst [])) (mSeq (mSetD [] 3 (mC (.int 0))) (mSeq (mSetD [] 4 (mC (.int 0))) (mSeq (mFor [true, true] (iZip2 [(mCall f_leads [(mVar 0), (mVar 1)]), (mOp gIx [(mVar 0), (mOp gAdd [(mVar 1), (mC (.int 1))])])]) (.t2 (.nm 5) (.nm 6)) f_greatest_ways_b1) (mRetV 2)))))
/-- for customer in range(len(hall[counter]) - 1, -1, -1) -/
def f_with_total_of_b1 : MS := (mSeq (mSetD [true, true, false, false, false, false, true] 7 (mOp gAdd [(mOp gIx [(mOp gIx [(mVar 0), (mVar 1)]), (mVar 6)]), (mOp gIx [(mOp gIx [(mVar 0), (mOp gAdd [(mVar 1), (mC (.int 1))])]), (mVar 6)])])) (mSeq (mUpd uApp [false, false, true, true, false, false, true] 5 [(mOp gSub [(mOp gIx [(mVar 3), (mOp gAdd [(mVar 6), (mC (.int 1))])]), (mOp gMax2 [(mOp gIx [(mVar 3), (mVar 6)]), (mVar 2)])])]) (mSeq (mUpd uApp [false, false, false, false, false, true, false, true] 4 [(mOp gSub [(mVar 7), (mOp gIx [(mVar 5), (mOp gNeg [(mC (.int 1))])])])]) (mAug (fun a b => a - b) 2 (mOp gIx [(mVar 4), (mOp gNeg [(mC (.int 1))])])))))
def f_with_total_of : Fn := mkFn 3 8 (mSeq (mSetD [true, true] 3 (mOp gAdd [(mOp gLst [(mC (.int 0))]), (mCall f_greatest_ways [(mVar 0), (mVar 1)])])) (mSeq (mSetD [] 4 (mOp gLst [])) (mSeq (mSetD [] 5 (mOp gLst [])) (mSeq (mForP (iR3 [(mOp gSub [(mOp gLen [(mOp gIx [(mVar 0), (mVar 1)])]), (mC (.int 1))]), (mOp gNeg [(mC (.int 1))]), (mOp gNeg [(mC (.int 1))])]) (.nm 6) f_with_total_of_b1) (mRet (mCall f_with_rows [(mVar 0), (mVar 1), (mOp gRevS [(mVar 4)]), (mOp gRevS [(mVar 5)])]))))))
def f_moved_by : Fn := mkFn 3 5 (mSeq (mUnpD [true, true] (.t2 (.nm 3) (.nm 4)) (mCall f_can_move_by [(mVar 0), (mVar 1)])) (mSeq (mIf (tOr (tV (mOp gGt [(mVar 2), (mVar 3)])) (tV (mOp gLt [(mVar 2), (mOp gSub [(mC (.int 0)), (mVar 4)])]))) (mRet (mC .non)) mNil) (mRet (mCall f_with_total_of [(mVar 0), (mVar 1), (mOp gSub [(mOp gSumA [(mOp gIx [(mVar 0), (mVar 1)])]), (mVar 2)])]))))
def f_moved : Fn := mkFn 3 3 (mSeq (mDo (mCall f_need_both [(mVar 0), (mVar 1)])) (mSeq (mIf (tNot (tV (mCall f_is_whole [(mVar 2)]))) mBadS mNil) (mRet (mCall f_moved_by [(mVar 0), (mVar 1), (mVar 2)]))))
def f_need_hallx : Fn := mkFn 1 1 (mIf (tNot (tV (mCall f_is_hall [(mVar 0)]))) (mRaise "NoHall") mNil)
def f__law_bag : Fn := mkFn 1 1 (mRet (mBox [(mOp gMax2 [(mC (.int 1)), (mOp gSub [(mVar 0), (mOp gPow [(mC (.int 10)), (mC (.int 18))])])]), (mOp gMod [(mVar 0), (mOp gAdd [(mOp gPow [(mC (.int 10)), (mC (.int 40))]), (mC (.int 121))])]), (mC (.int 0))]))
def f__law_draw : Fn := mkFn 2 3 (mSeq (mIf (tV (mOp gGt [(mOp gIx [(mVar 0), (mC (.int 0))]), (mC (.int 1))])) (mSeq (mSetD [true, true] 2 (mOp gMod [(mOp gIx [(mVar 0), (mC (.int 0))]), (mVar 1)])) (mSeq (mSt [true, true] 0 (mC (.int 0)) (mOp gDiv [(mOp gIx [(mVar 0), (mC (.int 0))]), (mVar 1)])) (mRetV 2))) mNil) (mSeq (mSt [true] 0 (mC (.int 2)) (mOp gAdd [(mOp gIx [(mVar 0), (mC (.int 2))]), (mC (.int 1))])) (mSeq (mSetD [true] 2 (mOp gMod [(mOp gPow [(mOp gAdd [(mOp gIx [(mVar 0), (mC (.int 1))]), (mOp gMul [(mOp gIx [(mVar 0), (mC (.int 2))]), (mC (.int 982451653))])]), (mC (.int 5))]), (mOp gAdd [(mOp gPow [(mC (.int 10)), (mC (.int 39))]), (mC (.int 3))])])) (mSeq (mSetD [true, false, true] 2 (mOp gMod [(mOp gPow [(mOp gAdd [(mVar 2), (mOp gMul [(mOp gIx [(mVar 0), (mC (.int 2))]), (mC (.int 15485863))])]), (mC (.int 3))]), (mOp gAdd [(mOp gPow [(mC (.int 10)), (mC (.int 36))]), (mC (.int 67))])])) (mRet (mOp gMod [(mOp gDiv [(mVar 2), (mC (.int 1024))]), (mVar 1)]))))))
/-- [_law_alike(found[k], due[k]) for k in range(len(due))] -/
def f__law_alike_8dc4_c1 (R : Fn) : M := mLc (iR1 [(mOp gLen [(mVar 1)])]) (.nm 2) [2] tTrue (mCall R [(mOp gIx [(mVar 0), (mVar 2)]), (mOp gIx [(mVar 1), (mVar 2)])])
def f__law_alike_8dc4_body (R : Fn) : Fn := mkFn 2 3 (mSeq (mIf (tV (mOp gIsi2 [(mVar 1), (mOp gTup [(mC (.ty "list")), (mC (.ty "tuple"))])])) (mSeq (mIf (tV (mOp gNe [(mOp gIsi [(mVar 0), (mC (.ty "list"))]), (mOp gIsi [(mVar 1), (mC (.ty "list"))])])) (mRet (mC (.bl false))) mNil) (mSeq (mIf (tV (mOp gNe [(mOp gIsi [(mVar 0), (mC (.ty "tuple"))]), (mOp gIsi [(mVar 1), (mC (.ty "tuple"))])])) (mRet (mC (.bl false))) mNil) (mSeq (mIf (tV (mOp gNe [(mOp gLen [(mVar 0)]), (mOp gLen [(mVar 1)])])) (mRet (mC (.bl false))) mNil) (mRet (mOp gAll [(f__law_alike_8dc4_c1 R)]))))) mNil) (mSeq (mIf (tOr (tV (mOp gIsN [(mVar 0), (mC .non)])) (tV (mOp gIsN [(mVar 1), (mC .non)]))) (mRet (mAnd (mOp gIsN [(mVar 0), (mC .non)]) (mOp gIsN [(mVar 1), (mC .non)]))) mNil) (mRet (mAnd (mOp gEq [(mOp gIsi [(mVar 0), (mC (.ty "bool"))]), (mOp gIsi [(mVar 1), (mC (.ty "bool"))])]) (mOp gEq [(mVar 0), (mVar 1)])))))
def f__law_alike_8dc4_r : Nat → Fn
  | 0 => badF
  | n + 1 => f__law_alike_8dc4_body (f__law_alike_8dc4_r n)
def f__law_alike_8dc4 : Fn := f__law_alike_8dc4_r 8
def f_with_minute : Fn := mkFn 4 6 (mSeq (mSetD [true, true] 4 (mOp gList [(mOp gIx [(mVar 0), (mVar 1)])])) (mSeq (mSetD [true, true] 5 (mOp gList [(mOp gIx [(mVar 0), (mOp gAdd [(mVar 1), (mC (.int 1))])])])) (mSeq (mAugI (fun a b => a - b) 4 (mVar 2) (mVar 3)) (mSeq (mAugI (fun a b => a + b) 5 (mVar 2) (mVar 3)) (mRet (mCall f_with_rows [(mVar 0), (mVar 1), (mVar 4), (mVar 5)]))))))
def f_moved_on : Fn := mkFn 2 4 (mSeq (mSetD [true, true] 2 (mCall f_leads [(mVar 0), (mVar 1)])) (mSeq (mSetD [false, false, true] 3 (mOp gMaxA [(mVar 2)])) (mRet (mIfE (tV (mOp gEq [(mVar 3), (mC (.int 0))])) (mC .non) (mCall f_with_minute [(mVar 0), (mVar 1), (mIndex (mVar 2) (mVar 3)), (mC (.int 1))])))))
def f_move : Fn := mkFn 2 2 (mSeq (mDo (mCall f_need_both [(mVar 0), (mVar 1)])) (mRet (mCall f_moved_on [(mVar 0), (mVar 1)])))
def f_moved_back : Fn := mkFn 2 4 (mSeq (mIf (tV (mOp gEq [(mOp gIx [(mCall f_can_move_by [(mVar 0), (mVar 1)]), (mC (.int 1))]), (mC (.int 0))])) (mRet (mC .non)) mNil) (mSeq (mSetD [true, true] 2 (mCall f_leads [(mVar 0), (mVar 1)])) (mSeq (mSetD [false, false, true] 3 (mOp gSub [(mOp gSub [(mOp gLen [(mVar 2)]), (mC (.int 1))]), (mIndex (mOp gRevS [(mVar 2)]) (mOp gMaxA [(mVar 2)]))])) (mRet (mCall f_with_minute [(mVar 0), (mVar 1), (mVar 3), (mOp gNeg [(mC (.int 1))])])))))
def f_back : Fn := mkFn 2 2 (mSeq (mDo (mCall f_need_both [(mVar 0), (mVar 1)])) (mRet (mCall f_moved_back [(mVar 0), (mVar 1)])))
def f__law_minutes : Fn := mkFn 2 3 (mSeq (mSetD [false, true] 2 (mOp gIx [(mOp gLst [(mC (.int 2)), (mC (.int 4)), (mC (.int 20)), (mOp gPow [(mC (.int 10)), (mC (.int 14))]), (mC (.int 0))]), (mVar 1)])) (mSeq (mIf (tV (mOp gEq [(mVar 2), (mC (.int 0))])) (mSetD [true] 2 (mOp gIx [(mOp gLst [(mC (.int 1)), (mC (.int 2)), (mC (.int 4)), (mC (.int 30)), (mOp gPow [(mC (.int 10)), (mC (.int 14))])]), (mCall f__law_draw [(mVar 0), (mC (.int 5))])])) mNil) (mRet (mOp gMul [(mCall f__law_draw [(mVar 0), (mVar 2)]), (mOp gMin2 [(mC (.int 1)), (mCall f__law_draw [(mVar 0), (mC (.int 4))])])]))))
/-- [_law_minutes(bag, lot) for k in range(long)] -/
def f__law_hall_9811_c1 : M := mLc (iR1 [(mVar 5)]) (.nm 7) [7] tTrue (mCall f__law_minutes [(mVar 0), (mVar 6)])
/-- [tuple([_law_minutes(bag, lot) for k in range(long)]) for row in range(size)] -/
def f__law_hall_9811_c2 : M := mLc (iR1 [(mVar 4)]) (.nm 8) [8] tTrue (mOp gTuple [f__law_hall_9811_c1])
def f__law_hall_9811 : Fn := mkFn 4 9 (mSeq (mUnpD [true, true, true] (.t2 (.nm 4) (.nm 5)) (mOp gTup [(mOp gAdd [(mC (.int 1)), (mCall f__law_draw [(mVar 0), (mVar 1)])]), (mOp gAdd [(mC (.int 1)), (mCall f__law_draw [(mVar 0), (mVar 2)])])])) (mSeq (mSetD [true, false, false, true] 6 (mCall f__law_draw [(mVar 0), (mIfE (tV (mVar 3)) (mC (.int 2)) (mC (.int 5)))])) (mRet (mOp gTuple [f__law_hall_9811_c2]))))
def f_can_move : Fn := mkFn 2 2 (mSeq (mDo (mCall f_need_both [(mVar 0), (mVar 1)])) (mRet (mCall f_can_move_by [(mVar 0), (mVar 1)])))
def f__law_no_hall : Fn := mkFn 1 2 (mSeq (mSetD [] 1 (mOp gLst [(mC .non), (mOp gTup []), (mOp gTup [(mOp gTup [])]), (mOp gLst [(mOp gTup [(mC (.int 1)), (mC (.int 2))])]), (mOp gTup [(mOp gLst [(mC (.int 1)), (mC (.int 2))])]), (mOp gTup [(mOp gTup [(mC (.int 1)), (mC (.int 2))]), (mOp gTup [(mC (.int 1))])]), (mOp gTup [(mOp gTup [(mOp gNeg [(mC (.int 1))])])]), (mOp gTup [(mOp gTup [(mC (.bl true))])]), (mOp gTup [(mOp gTup [(mC (.str "1"))])]), (mC (.int 3)), (mOp gTup [(mOp gTup [(mC (.int 1)), (mC .non)])])])) (mSeq (mSetD [false, true] 1 (mOp gAdd [(mVar 1), (mOp gLst [(mOp gMulT [(mOp gTup [(mOp gTup [(mC (.int 1))])]), (mC (.int 9))]), (mOp gTup [(mOp gMulT [(mOp gTup [(mC (.int 1))]), (mC (.int 9))])]), (mDic false), (mOp gTup [(mC (.int 1)), (mC (.int 2))])])])) (mRet (mOp gIx [(mVar 1), (mCall f__law_draw [(mVar 0), (mC (.int 15))])]))))
def f_need_neighboursx : Fn := mkFn 2 2 (mIf (tOr (tNot (tV (mCall f_is_amount [(mVar 1)]))) (tV (mOp gGe [(mVar 1), (mOp gSub [(mOp gLen [(mVar 0)]), (mC (.int 1))])]))) (mRaise "NoCounter") mNil)
def f_need_bothx : Fn := mkFn 2 2 (mSeq (mDo (mCall f_need_hallx [(mVar 0)])) (mDo (mCall f_need_neighboursx [(mVar 0), (mVar 1)])))
def f_can_movex : Fn := mkFn 2 2 (mSeq (mDo (mCall f_need_bothx [(mVar 0), (mVar 1)])) (mRet (mCall f_can_move_by [(mVar 0), (mVar 1)])))
/-- [_law_alike(found[k], due[k]) for k in range(len(due))] -/
def f__law_alike_c1 (R : Fn) : M := mLc (iR1 [(mOp gLen [(mVar 1)])]) (.nm 2) [2] tTrue (mCall R [(mOp gIx [(mVar 0), (mVar 2)]), (mOp gIx [(mVar 1), (mVar 2)])])
def f__law_alike_body (R : Fn) : Fn := mkFn 2 3 (mSeq (mIf (tV (mOp gIsi2 [(mVar 1), (mOp gTup [(mC (.ty "list")), (mC (.ty "tuple"))])])) (mSeq (mIf (tOr (tV (mOp gNe [(mOp gIsi [(mVar 0), (mC (.ty "list"))]), (mOp gIsi [(mVar 1), (mC (.ty "list"))])])) (tNot (tV (mOp gIsi2 [(mVar 0), (mOp gTup [(mC (.ty "list")), (mC (.ty "tuple"))])])))) (mRet (mC (.bl false))) mNil) (mSeq (mIf (tV (mOp gNe [(mOp gLen [(mVar 0)]), (mOp gLen [(mVar 1)])])) (mRet (mC (.bl false))) mNil) (mRet (mOp gAll [(f__law_alike_c1 R)])))) mNil) (mSeq (mIf (tOr (tV (mOp gIsi [(mVar 1), (mC (.ty "bool"))])) (tV (mOp gIsi [(mVar 0), (mC (.ty "bool"))]))) (mRet (mAnd (mOp gIsi [(mVar 1), (mC (.ty "bool"))]) (mAnd (mOp gIsi [(mVar 0), (mC (.ty "bool"))]) (mOp gEq [(mVar 0), (mVar 1)])))) mNil) (mRet (mOp gEq [(mVar 0), (mVar 1)]))))
def f__law_alike_r : Nat → Fn
  | 0 => badF
  | n + 1 => f__law_alike_body (f__law_alike_r n)
def f__law_alike : Fn := f__law_alike_r 8
end Zm
set_option autoImplicit false
namespace Zm
open PySem
def gx__law_words (c : Str) : D := .lst true [.str c, .str "value"]
end Zm
set_option Elab.async false
set_option linter.all false
set_option maxRecDepth 100000
set_option autoImplicit false
namespace Zm
open PySem PySem.Spec PyProof.Rows L2
def f__law_no_number : Fn := mkFn 2 2 (mRet (mOp gIx [(mOp gLst [(mVar 1), (mOp gNeg [(mC (.int 1))]), (mC .non), (mC (.bl true)), (mC (.str "0")), (mOp gTup [(mC (.int 0))]), (mOp gLst [(mC (.int 0))]), (mOp gAdd [(mVar 1), (mOp gPow [(mC (.int 10)), (mC (.int 9))])])]), (mCall f__law_draw [(mVar 0), (mC (.int 8))])]))
def f_movedx : Fn := mkFn 3 3 (mSeq (mDo (mCall f_need_bothx [(mVar 0), (mVar 1)])) (mSeq (mIf (tNot (tV (mCall f_is_whole [(mVar 2)]))) (mRaise "NoNumber") mNil) (mRet (mCall f_moved_by [(mVar 0), (mVar 1), (mVar 2)]))))
/-- [word for word, fits in some if fits] -/
def fx__law_words_k17_c1 : M := mLc (iL (mVar 1)) (.t2 (.nm 2) (.nm 3)) [2, 3] (tV (mVar 3)) (mVar 2)
def fx__law_words_k17_b (c : Str) (a : Int) : MS := (mSeq (mSetD [true] 1 (mOp gLst [(mOp gTup [(mC (.str "NoHall")), (mOp (gIsX (["NoHall", "NoDay", "NoCustomer", "NoCounter", "NoNumber", "NoTotals", "NoMany", "NoCustomers", "NoTowers", "NoRoom", "NoMove", "Unlike", "NoWay", "NoRoad", "TooMany", "NoText"] : List Str) c a) [(mVar 0), (mC (.fn "NoHall"))])]), (mOp gTup [(mC (.str "NoDay")), (mOp (gIsX (["NoHall", "NoDay", "NoCustomer", "NoCounter", "NoNumber", "NoTotals", "NoMany", "NoCustomers", "NoTowers", "NoRoom", "NoMove", "Unlike", "NoWay", "NoRoad", "TooMany", "NoText"] : List Str) c a) [(mVar 0), (mC (.fn "NoDay"))])])])) (mSeq (mSetD [true, true] 1 (mOp gAdd [(mVar 1), (mOp gLst [(mOp gTup [(mC (.str "NoCustomer")), (mOp (gIsX (["NoHall", "NoDay", "NoCustomer", "NoCounter", "NoNumber", "NoTotals", "NoMany", "NoCustomers", "NoTowers", "NoRoom", "NoMove", "Unlike", "NoWay", "NoRoad", "TooMany", "NoText"] : List Str) c a) [(mVar 0), (mC (.fn "NoCustomer"))])]), (mOp gTup [(mC (.str "NoCounter")), (mOp (gIsX (["NoHall", "NoDay", "NoCustomer", "NoCounter", "NoNumber", "NoTotals", "NoMany", "NoCustomers", "NoTowers", "NoRoom", "NoMove", "Unlike", "NoWay", "NoRoad", "TooMany", "NoText"] : List Str) c a) [(mVar 0), (mC (.fn "NoCounter"))])])])])) (mSeq (mSetD [true, true] 1 (mOp gAdd [(mVar 1), (mOp gLst [(mOp gTup [(mC (.str "NoNumber")), (mOp (gIsX (["NoHall", "NoDay", "NoCustomer", "NoCounter", "NoNumber", "NoTotals", "NoMany", "NoCustomers", "NoTowers", "NoRoom", "NoMove", "Unlike", "NoWay", "NoRoad", "TooMany", "NoText"] : List Str) c a) [(mVar 0), (mC (.fn "NoNumber"))])]), (mOp gTup [(mC (.str "NoTotals")), (mOp (gIsX (["NoHall", "NoDay", "NoCustomer", "NoCounter", "NoNumber", "NoTotals", "NoMany", "NoCustomers", "NoTowers", "NoRoom", "NoMove", "Unlike", "NoWay", "NoRoad", "TooMany", "NoText"] : List Str) c a) [(mVar 0), (mC (.fn "NoTotals"))])])])])) (mSeq (mSetD [true, true] 1 (mOp gAdd [(mVar 1), (mOp gLst [(mOp gTup [(mC (.str "NoMany")), (mOp (gIsX (["NoHall", "NoDay", "NoCustomer", "NoCounter", "NoNumber", "NoTotals", "NoMany", "NoCustomers", "NoTowers", "NoRoom", "NoMove", "Unlike", "NoWay", "NoRoad", "TooMany", "NoText"] : List Str) c a) [(mVar 0), (mC (.fn "NoMany"))])]), (mOp gTup [(mC (.str "NoCustomers")), (mOp (gIsX (["NoHall", "NoDay", "NoCustomer", "NoCounter", "NoNumber", "NoTotals", "NoMany", "NoCustomers", "NoTowers", "NoRoom", "NoMove", "Unlike", "NoWay", "NoRoad", "TooMany", "NoText"] : List Str) c a) [(mVar 0), (mC (.fn "NoCustomers"))])])])])) (mSeq (mSetD [true, true] 1 (mOp gAdd [(mVar 1), (mOp gLst [(mOp gTup [(mC (.str "NoTowers")), (mOp (gIsX (["NoHall", "NoDay", "NoCustomer", "NoCounter", "NoNumber", "NoTotals", "NoMany", "NoCustomers", "NoTowers", "NoRoom", "NoMove", "Unlike", "NoWay", "NoRoad", "TooMany", "NoText"] : List Str) c a) [(mVar 0), (mC (.fn "NoTowers"))])]), (mOp gTup [(mC (.str "NoRoom")), (mOp (gIsX (["NoHall", "NoDay", "NoCustomer", "NoCounter", "NoNumber", "NoTotals", "NoMany", "NoCustomers", "NoTowers", "NoRoom", "NoMove", "Unlike", "NoWay", "NoRoad", "TooMany", "NoText"] : List Str) c a) [(mVar 0), (mC (.fn "NoRoom"))])])])])) (mSeq (mSetD [true, true] 1 (mOp gAdd [(mVar 1), (mOp gLst [(mOp gTup [(mC (.str "NoMove")), (mOp (gIsX (["NoHall", "NoDay", "NoCustomer", "NoCounter", "NoNumber", "NoTotals", "NoMany", "NoCustomers", "NoTowers", "NoRoom", "NoMove", "Unlike", "NoWay", "NoRoad", "TooMany", "NoText"] : List Str) c a) [(mVar 0), (mC (.fn "NoMove"))])]), (mOp gTup [(mC (.str "Unlike")), (mOp (gIsX (["NoHall", "NoDay", "NoCustomer", "NoCounter", "NoNumber", "NoTotals", "NoMany", "NoCustomers", "NoTowers", "NoRoom", "NoMove", "Unlike", "NoWay", "NoRoad", "TooMany", "NoText"] : List Str) c a) [(mVar 0), (mC (.fn "Unlike"))])])])])) (mSeq (mSetD [true, true] 1 (mOp gAdd [(mVar 1), (mOp gLst [(mOp gTup [(mC (.str "NoWay")), (mOp (gIsX (["NoHall", "NoDay", "NoCustomer", "NoCounter", "NoNumber", "NoTotals", "NoMany", "NoCustomers", "NoTowers", "NoRoom", "NoMove", "Unlike", "NoWay", "NoRoad", "TooMany", "NoText"] : List Str) c a) [(mVar 0), (mC (.fn "NoWay"))])]), (mOp gTup [(mC (.str "NoRoad")), (mOp (gIsX (["NoHall", "NoDay", "NoCustomer", "NoCounter", "NoNumber", "NoTotals", "NoMany", "NoCustomers", "NoTowers", "NoRoom", "NoMove", "Unlike", "NoWay", "NoRoad", "TooMany", "NoText"] : List Str) c a) [(mVar 0), (mC (.fn "NoRoad"))])])])])) (mSeq (mSetD [true, true] 1 (mOp gAdd [(mVar 1), (mOp gLst [(mOp gTup [(mC (.str "TooMany")), (mOp (gIsX (["NoHall", "NoDay", "NoCustomer", "NoCounter", "NoNumber", "NoTotals", "NoMany", "NoCustomers", "NoTowers", "NoRoom", "NoMove", "Unlike", "NoWay", "NoRoad", "TooMany", "NoText"] : List Str) c a) [(mVar 0), (mC (.fn "TooMany"))])]), (mOp gTup [(mC (.str "NoText")), (mOp (gIsX (["NoHall", "NoDay", "NoCustomer", "NoCounter", "NoNumber", "NoTotals", "NoMany", "NoCustomers", "NoTowers", "NoRoom", "NoMove", "Unlike", "NoWay", "NoRoad", "TooMany", "NoText"] : List Str) c a) [(mVar 0), (mC (.fn "NoText"))])])])])) (mSeq (mUpd uApp [true] 1 [(mOp gTup [(mC (.str "value")), (mOp (gIsX (["NoHall", "NoDay", "NoCustomer", "NoCounter", "NoNumber", "NoTotals", "NoMany", "NoCustomers", "NoTowers", "NoRoom", "NoMove", "Unlike", "NoWay", "NoRoad", "TooMany", "NoText"] : List Str) c a) [(mVar 0), (mC (.ty "ValueError"))])])]) (mRet fx__law_words_k17_c1))))))))))
def fx__law_words_k17 (c : Str) (a : Int) : Fn := mkFn 1 4 (fx__law_words_k17_b c a)
def f_movex : Fn := mkFn 2 2 (mSeq (mDo (mCall f_need_bothx [(mVar 0), (mVar 1)])) (mRet (mCall f_moved_on [(mVar 0), (mVar 1)])))
def f_backx : Fn := mkFn 2 2 (mSeq (mDo (mCall f_need_bothx [(mVar 0), (mVar 1)])) (mRet (mCall f_moved_back [(mVar 0), (mVar 1)])))
/-- try -/
def f__law_said_e0aax_y1 : MS := (mIf (tV (mOp gLt [(mVar 0), (mC (.int 3))])) (mDo (mCallE [("move", f_movex), ("back", f_backx), ("can_move", f_can_movex)] (mOp gIx [(mOp gLst [(mC (.fn "move")), (mC (.fn "back")), (mC (.fn "can_move"))]), (mVar 0)]) [(mVar 2), (mVar 3)])) (mDo (mCall f_movedx [(mVar 2), (mVar 3), (mVar 4)])))
def f__law_said_e0aax : Fn := mkFn 2 7 (mSeq (mUnpD [false, true] (.t3 (.nm 2) (.nm 3) (.nm 4)) (mVar 1)) (mSeq (mSetD [] 5 (mOp gLst [])) (mSeq (mTryF (["NoNumber", "NoHall", "NoCounter"] : List Str) 5 6 gx__law_words f__law_said_e0aax_y1) (mRetV 5))))
/-- for i in range(len(rooms) - 1) -/
def f_law_b1 : MS := (mIf (tV (mOp gNe [(mOp gAdd [(mCall f__law_said_e0aax [(mVar 7), (mOp gTup [(mVar 3), (mVar 12), (mOp gPow [(mC (.int 10)), (mC (.int 14))])])]), (mCall f__law_said_e0aax [(mVar 7), (mOp gTup [(mVar 3), (mVar 12), (mOp gNeg [(mOp gPow [(mC (.int 10)), (mC (.int 14))])])])])]), (mOp gLst [])])) (mRet (mC (.bl false))) mNil)
/-- for (some, word) in asks -/
def f_law_b2 : MS := (mSeq (mSetD [false, false, false, false, false, false, false, false, false, true] 11 (mOp gReprZ [(mVar 9)])) (mIf (tOr (tV (mOp gNe [(mCall f__law_said_e0aax [(mVar 7), (mVar 9)]), (mOp gLst [(mVar 10), (mC (.str "value"))])])) (tV (mOp gNe [(mOp gReprZ [(mVar 9)]), (mVar 11)]))) (mRet (mC (.bl false))) mNil))
/-- for door in range(4) -/
def f_law_b3 : MS := (mSeq (mSetT [false, false, false, true, true, true, true] 8 (mOp gLst [(mOp gTup [(mOp gTup [(mVar 4), (mVar 5), (mVar 6)]), (mC (.str "NoHall"))]), (mOp gTup [(mOp gTup [(mVar 3), (mVar 5), (mVar 6)]), (mC (.str "NoCounter"))])])) (mSeq (mUpd uApp [false, false, false, true] 8 [(mOp gTup [(mOp gTup [(mVar 3), (mOp gSub [(mOp gLen [(mVar 3)]), (mC (.int 1))]), (mC (.int 0))]), (mC (.str "NoCounter"))])]) (mSeq (mIf (tAnd (tV (mOp gEq [(mVar 7), (mC (.int 3))])) (tV (mOp gGt [(mOp gLen [(mVar 3)]), (mC (.int 1))]))) (mUpd uApp [false, false, false, true, false, false, true] 8 [(mOp gTup [(mOp gTup [(mVar 3), (mC (.int 0)), (mVar 6)]), (mC (.str "NoNumber"))])]) mNil) (mSeq (mFor [false, false, false, false, false, false, false, false, true] (iSeq (mVar 8)) (.t2 (.nm 9) (.nm 10)) f_law_b2) (mForP (iR1 [(mOp gSub [(mOp gLen [(mVar 3)]), (mC (.int 1))])]) (.nm 12) f_law_b1)))))
/-- for k in range(max(1, min(6, len(script)))) -/
def f_law_b4 : MS := (mSeq (mSetD [true, true] 2 (mCall f__law_bag [(mOp gAdd [(mCall f__law_cell_at [(mVar 0), (mVar 1)]), (mC (.int 4))])])) (mSeq (mSetD [false, false, true] 3 (mCall f__law_hall_9811 [(mVar 2), (mC (.int 6)), (mC (.int 8)), (mC (.bl false))])) (mSeq (mSetD [false, false, true] 4 (mCall f__law_no_hall [(mVar 2)])) (mSeq (mSetD [false, false, true, true] 5 (mCall f__law_no_number [(mVar 2), (mOp gSub [(mOp gLen [(mVar 3)]), (mC (.int 1))])])) (mSeq (mSetD [false, false, true] 6 (mOp gIx [(mOp gLst [(mC .non), (mC (.bl true)), (mC (.str "1")), (mOp gTup [(mC (.int 1))]), (mOp gLst [(mC (.int 0))]), (mC (.bl false))]), (mCall f__law_draw [(mVar 2), (mC (.int 6))])])) (mForP (iR1 [(mC (.int 4))]) (.nm 7) f_law_b3))))))
def f_law : Fn := mkFn 1 13 (mSeq (mForP (iR1 [(mOp gMax2 [(mC (.int 1)), (mOp gMin2 [(mC (.int 6)), (mOp gLen [(mVar 0)])])])]) (.nm 1) f_law_b4) (mRet (mC (.bl true))))
end Zm
set_option linter.all false
set_option autoImplicit false
/-! P0: stepping a machine. -/
namespace Zm
open PySem
@[simp] theorem fz_ints : ∀ ns : List Int, fzs (ns.map D.int) = ns.map D.int
  | [] => rfl
  | n :: ns => by simp [fz_ints ns]
@[simp] theorem noF_ints : ∀ ns : List Int, noFs (ns.map D.int) = true
  | [] => rfl
  | n :: ns => by simp [noF_ints ns]
@[simp] theorem plain_ints : ∀ ns : List Int, plains (ns.map D.int) = true
  | [] => rfl
  | n :: ns => by simp [plain_ints ns]
theorem szl : (1000000 : Nat) ≤ sizeLine := by decide
theorem sm_of {i : Int} (h : i.natAbs < 2 ^ 1900) : sm i = true := decide_eq_true h
end Zm
namespace Zm
open PySem
mutual
/-- only numbers, in lists and tuples -/
def itg : PyData → Bool
  | .int _ => true
  | .list xs => itgs xs
  | .tuple xs => itgs xs
  | _ => false
def itgs : List PyData → Bool
  | [] => true
  | x :: xs => itg x && itgs xs
end
mutual
theorem itg_lay : ∀ x : PyData, itg x = true → x.canLay0 = true
  | .int _, _ => by simp [PyData.canLay0]
  | .list xs, h => by simp only [itg] at h; simp only [PyData.canLay0]; exact itgs_lay xs h
  | .tuple xs, h => by simp only [itg] at h; simp only [PyData.canLay0]; exact itgs_lay xs h
  | .none, h => by simp [itg] at h
  | .bool _, h => by simp [itg] at h
  | .str _, h => by simp [itg] at h
  | .dict _, h => by simp [itg] at h
theorem itgs_lay : ∀ xs : List PyData, itgs xs = true → PyData.canLayAll0 xs = true
  | [], _ => by simp [PyData.canLayAll0]
  | x :: xs, h => by
    simp only [itgs, Bool.and_eq_true] at h
    simp only [PyData.canLayAll0, Bool.and_eq_true]
    exact ⟨itg_lay x h.1, itgs_lay xs h.2⟩
end
mutual
theorem eqv_itg : ∀ x y : PyData, itg x = true → itg y = true → PyData.eqv x y = true → x = y
  | .int i, .int j, _, _, e => by simp [PyData.eqv] at e; rw [e]
  | .list xs, .list ys, h, h', e => by
    simp only [itg] at h h'; simp only [PyData.eqv] at e
    rw [eqvs_itg xs ys h h' e]
  | .tuple xs, .tuple ys, h, h', e => by
    simp only [itg] at h h'; simp only [PyData.eqv] at e
    rw [eqvs_itg xs ys h h' e]
  | .int _, .list _, _, _, e => by simp [PyData.eqv] at e
  | .int _, .tuple _, _, _, e => by simp [PyData.eqv] at e
  | .list _, .int _, _, _, e => by simp [PyData.eqv] at e
  | .list _, .tuple _, _, _, e => by simp [PyData.eqv] at e
  | .tuple _, .int _, _, _, e => by simp [PyData.eqv] at e
  | .tuple _, .list _, _, _, e => by simp [PyData.eqv] at e
  | .none, _, h, _, _ => by simp [itg] at h
  | .bool _, _, h, _, _ => by simp [itg] at h
  | .str _, _, h, _, _ => by simp [itg] at h
  | .dict _, _, h, _, _ => by simp [itg] at h
  | _, .none, _, h, _ => by simp [itg] at h
  | _, .bool _, _, h, _ => by simp [itg] at h
  | _, .str _, _, h, _ => by simp [itg] at h
  | _, .dict _, _, h, _ => by simp [itg] at h
theorem eqvs_itg : ∀ xs ys : List PyData, itgs xs = true → itgs ys = true → PyData.eqvAll xs ys = true → xs = ys
  | [], [], _, _, _ => rfl
  | x :: xs, y :: ys, h, h', e => by
    simp only [itgs, Bool.and_eq_true] at h h'
    simp only [PyData.eqvAll, Bool.and_eq_true] at e
    rw [eqv_itg x y h.1 h'.1 e.1, eqvs_itg xs ys h.2 h'.2 e.2]
  | [], _ :: _, _, _, e => by simp [PyData.eqvAll] at e
  | _ :: _, [], _, _, e => by simp [PyData.eqvAll] at e
end
/-- data that may be compared -/
structure Cmp (d : D) (x : PyData) : Prop where
  p : pd d = some x
  g : itg x = true
  h : x.depth ≤ 64
theorem Cmp.sh {d : D} {x : PyData} (c : Cmp d x) : shapedD d = some x := by
  unfold shapedD
  rw [c.p]
  have : SeqAt.shaped x = true := Bool.and_eq_true_iff.mpr ⟨itg_lay x c.g, decide_eq_true c.h⟩
  simp only [this, if_true]
theorem eq_t {s : Sto} {d e : D} {x : PyData} (c : Cmp d x) (c' : Cmp e x) : gEq s [d, e] = some (.bl true) := by
  simp only [gEq, c.sh, c'.sh, SeqAt.eqv_refl x (itg_lay x c.g)]
theorem eqv_f {x y : PyData} (h : itg x = true) (h' : itg y = true) (ne : x ≠ y) : PyData.eqv x y = false := by
  cases e : PyData.eqv x y with
  | false => rfl
  | true => exact absurd (eqv_itg x y h h' e) ne
theorem eq_f {s : Sto} {d e : D} {x y : PyData} (c : Cmp d x) (c' : Cmp e y) (ne : x ≠ y) : gEq s [d, e] = some (.bl false) := by
  simp only [gEq, c.sh, c'.sh, eqv_f c.g c'.g ne]
theorem Cmp.int (i : Int) : Cmp (.int i) (.int i) := ⟨rfl, rfl, by simp [PyData.depth]⟩
theorem pds_map {α : Type} {f : α → D} {g : α → PyData} (h : ∀ x, pd (f x) = some (g x)) : ∀ xs : List α, pds (xs.map f) = some (xs.map g)
  | [] => rfl
  | x :: xs => by rw [List.map_cons, pds, h x, pds_map h xs]; rfl
theorem itgs_map {α : Type} {g : α → PyData} (h : ∀ x, itg (g x) = true) : ∀ xs : List α, itgs (xs.map g) = true
  | [] => rfl
  | x :: xs => by rw [List.map_cons, itgs, h x, itgs_map h xs]; rfl
theorem depth_map {α : Type} {g : α → PyData} {n : Nat} (h : ∀ x, (g x).depth ≤ n) : ∀ xs : List α, PyData.depthAll (xs.map g) ≤ n
  | [] => by simp [PyData.depthAll]
  | x :: xs => by rw [List.map_cons, PyData.depthAll]; have := h x; have := depth_map h xs; omega
theorem Cmp.ints (o : Bool) (ns : List Int) : Cmp (.lst o (ns.map D.int)) (.list (ns.map .int)) :=
  ⟨by rw [pd, pds_map (g := PyData.int) fun _ => rfl]; rfl, by rw [itg]; exact itgs_map (fun _ => rfl) ns, by rw [PyData.depth]; have := depth_map (g := PyData.int) (n := 1) (fun _ => by simp [PyData.depth]) ns; omega⟩
end Zm
namespace Zm
open PySem
theorem atI_nat {α : Type} {xs : List α} {k : Nat} : L2.atI xs (k : Int) = xs[k]? := by
  unfold L2.atI L2.ixN
  rw [if_pos (by omega)]
  by_cases h : k < xs.length
  · rw [if_pos (by omega)]; simp
  · rw [if_neg (by omega), List.getElem?_eq_none (by omega)]; rfl
theorem atI_zero {α : Type} {xs : List α} : L2.atI xs 0 = xs[0]? := atI_nat (k := 0)
theorem atI_last {α : Type} {xs : List α} : L2.atI xs (-1) = xs.getLast? := by
  unfold L2.atI L2.ixN
  rw [if_neg (by decide)]
  cases h : xs.length with
  | zero =>
    have := List.eq_nil_of_length_eq_zero h
    subst this; rfl
  | succ n =>
    rw [if_pos (by omega)]
    show xs[((-1 : Int) + ((n + 1 : Nat) : Int)).toNat]? = _
    rw [List.getLast?_eq_getElem?, h, show ((-1 : Int) + ((n + 1 : Nat) : Int)).toNat = n by omega]
    rfl
end Zm
namespace Zm
open PySem PySem.Spec PyProof.Rows L2
theorem cut_from {α : Type} (xs : List α) (k : Nat) : cutD xs (some (k : Int)) none = xs.drop k := by
  unfold cutD
  rw [HT.sIx_nat, HT.sIx_none, List.take_of_length_le (by simp)]
  by_cases h : k ≤ xs.length
  · rw [Nat.min_eq_left h]
  · rw [Nat.min_eq_right (by omega), List.drop_eq_nil_of_le (by omega), List.drop_eq_nil_of_le (by omega)]
theorem cut_to {α : Type} (xs : List α) (k : Nat) : cutD xs none (some (k : Int)) = xs.take k := by
  unfold cutD
  rw [HT.sIx_nat, HT.sIx_none, List.drop_zero, Nat.sub_zero]
  by_cases h : k ≤ xs.length
  · rw [Nat.min_eq_left h]
  · rw [Nat.min_eq_right (by omega), List.take_of_length_le (Nat.le_refl _), List.take_of_length_le (by omega)]
theorem zip2_map {α β : Type} (f : α → D) (g : β → D) : ∀ (xs : List α) (ys : List β), zip2 (xs.map f) (ys.map g) = (xs.zip ys).map fun p => .tup [f p.1, g p.2]
  | [], _ => by simp [zip2]
  | _ :: _, [] => by simp [zip2]
  | x :: xs, y :: ys => by
    have := zip2_map f g xs ys
    unfold zip2 at this ⊢
    simp [this]
end Zm
namespace Zm
open PySem
theorem do_ok {m : M} {σ : Env} {s s' : Sto} {d : D} (h : m σ s = .ok d s') : mDo m σ s = .nx σ s' := by simp only [mDo, h, R.to_ok]
end Zm
set_option linter.all false
set_option autoImplicit false
set_option maxRecDepth 100000
set_option maxHeartbeats 4000000
namespace Zm
open PySem
theorem szl7 : (1000000 : Nat) < sizeLine := by decide
theorem szk {n : Nat} (h : n ≤ 1000000) : (n ≤ sizeLine) = True := by simp only [eq_iff_iff, iff_true]; exact Nat.le_trans h (Nat.le_of_lt szl7)
theorem szk' {n : Nat} (h : n ≤ 1000000) : (n < sizeLine) = True := by simp only [eq_iff_iff, iff_true]; exact Nat.lt_of_le_of_lt h szl7
theorem xs_NoNumber_NoHall : exSub "NoNumber" "NoHall" = false := by decide
theorem xs_NoNumber_NoDay : exSub "NoNumber" "NoDay" = false := by decide
theorem xs_NoNumber_NoCustomer : exSub "NoNumber" "NoCustomer" = false := by decide
theorem xs_NoNumber_NoCounter : exSub "NoNumber" "NoCounter" = false := by decide
theorem xs_NoNumber_NoNumber : exSub "NoNumber" "NoNumber" = true := by decide
theorem xs_NoNumber_NoTotals : exSub "NoNumber" "NoTotals" = false := by decide
theorem xs_NoNumber_NoMany : exSub "NoNumber" "NoMany" = false := by decide
theorem xs_NoNumber_NoCustomers : exSub "NoNumber" "NoCustomers" = false := by decide
theorem xs_NoNumber_NoTowers : exSub "NoNumber" "NoTowers" = false := by decide
theorem xs_NoNumber_NoRoom : exSub "NoNumber" "NoRoom" = false := by decide
theorem xs_NoNumber_NoMove : exSub "NoNumber" "NoMove" = false := by decide
theorem xs_NoNumber_Unlike : exSub "NoNumber" "Unlike" = false := by decide
theorem xs_NoNumber_NoWay : exSub "NoNumber" "NoWay" = false := by decide
theorem xs_NoNumber_NoRoad : exSub "NoNumber" "NoRoad" = false := by decide
theorem xs_NoNumber_TooMany : exSub "NoNumber" "TooMany" = false := by decide
theorem xs_NoNumber_NoText : exSub "NoNumber" "NoText" = false := by decide
theorem xs_NoHall_NoHall : exSub "NoHall" "NoHall" = true := by decide
theorem xs_NoHall_NoDay : exSub "NoHall" "NoDay" = false := by decide
theorem xs_NoHall_NoCustomer : exSub "NoHall" "NoCustomer" = false := by decide
theorem xs_NoHall_NoCounter : exSub "NoHall" "NoCounter" = false := by decide
theorem xs_NoHall_NoNumber : exSub "NoHall" "NoNumber" = false := by decide
theorem xs_NoHall_NoTotals : exSub "NoHall" "NoTotals" = false := by decide
theorem xs_NoHall_NoMany : exSub "NoHall" "NoMany" = false := by decide
theorem xs_NoHall_NoCustomers : exSub "NoHall" "NoCustomers" = false := by decide
theorem xs_NoHall_NoTowers : exSub "NoHall" "NoTowers" = false := by decide
theorem xs_NoHall_NoRoom : exSub "NoHall" "NoRoom" = false := by decide
theorem xs_NoHall_NoMove : exSub "NoHall" "NoMove" = false := by decide
theorem xs_NoHall_Unlike : exSub "NoHall" "Unlike" = false := by decide
theorem xs_NoHall_NoWay : exSub "NoHall" "NoWay" = false := by decide
theorem xs_NoHall_NoRoad : exSub "NoHall" "NoRoad" = false := by decide
theorem xs_NoHall_TooMany : exSub "NoHall" "TooMany" = false := by decide
theorem xs_NoHall_NoText : exSub "NoHall" "NoText" = false := by decide
theorem xs_NoCounter_NoHall : exSub "NoCounter" "NoHall" = false := by decide
theorem xs_NoCounter_NoDay : exSub "NoCounter" "NoDay" = false := by decide
theorem xs_NoCounter_NoCustomer : exSub "NoCounter" "NoCustomer" = false := by decide
theorem xs_NoCounter_NoCounter : exSub "NoCounter" "NoCounter" = true := by decide
theorem xs_NoCounter_NoNumber : exSub "NoCounter" "NoNumber" = false := by decide
theorem xs_NoCounter_NoTotals : exSub "NoCounter" "NoTotals" = false := by decide
theorem xs_NoCounter_NoMany : exSub "NoCounter" "NoMany" = false := by decide
theorem xs_NoCounter_NoCustomers : exSub "NoCounter" "NoCustomers" = false := by decide
theorem xs_NoCounter_NoTowers : exSub "NoCounter" "NoTowers" = false := by decide
theorem xs_NoCounter_NoRoom : exSub "NoCounter" "NoRoom" = false := by decide
theorem xs_NoCounter_NoMove : exSub "NoCounter" "NoMove" = false := by decide
theorem xs_NoCounter_Unlike : exSub "NoCounter" "Unlike" = false := by decide
theorem xs_NoCounter_NoWay : exSub "NoCounter" "NoWay" = false := by decide
theorem xs_NoCounter_NoRoad : exSub "NoCounter" "NoRoad" = false := by decide
theorem xs_NoCounter_TooMany : exSub "NoCounter" "TooMany" = false := by decide
theorem xs_NoCounter_NoText : exSub "NoCounter" "NoText" = false := by decide
theorem gx__law_words_ok : ∀ c ∈ (["NoNumber", "NoHall", "NoCounter"] : List Str), ∀ (a : Int) (s : Sto), fx__law_words_k17 c a [.exc c (some a)] s = .ok (gx__law_words c) s ∧ noF (gx__law_words c) = true := by
  intro c hc a s
  simp only [List.mem_cons, List.not_mem_nil, or_false] at hc
  rcases hc with rfl | rfl | rfl
  all_goals
    refine ⟨?_, rfl⟩
    simp [fx__law_words_k17, mkFn, fx__law_words_k17_b, mSetD, mUpd, gIsX, gIsXT, fnNames, gLst, gTup, gAdd, uApp, szk, szk', fx__law_words_k17_c1, mLc, iL, lcR, Tg.within, Tg.slots, Tg.bind, wipeE, fzE, xs_NoNumber_NoHall, xs_NoNumber_NoDay, xs_NoNumber_NoCustomer, xs_NoNumber_NoCounter, xs_NoNumber_NoNumber, xs_NoNumber_NoTotals, xs_NoNumber_NoMany, xs_NoNumber_NoCustomers, xs_NoNumber_NoTowers, xs_NoNumber_NoRoom, xs_NoNumber_NoMove, xs_NoNumber_Unlike, xs_NoNumber_NoWay, xs_NoNumber_NoRoad, xs_NoNumber_TooMany, xs_NoNumber_NoText, xs_NoHall_NoHall, xs_NoHall_NoDay, xs_NoHall_NoCustomer, xs_NoHall_NoCounter, xs_NoHall_NoNumber, xs_NoHall_NoTotals, xs_NoHall_NoMany, xs_NoHall_NoCustomers, xs_NoHall_NoTowers, xs_NoHall_NoRoom, xs_NoHall_NoMove, xs_NoHall_Unlike, xs_NoHall_NoWay, xs_NoHall_NoRoad, xs_NoHall_TooMany, xs_NoHall_NoText, xs_NoCounter_NoHall, xs_NoCounter_NoDay, xs_NoCounter_NoCustomer, xs_NoCounter_NoCounter, xs_NoCounter_NoNumber, xs_NoCounter_NoTotals, xs_NoCounter_NoMany, xs_NoCounter_NoCustomers, xs_NoCounter_NoTowers, xs_NoCounter_NoRoom, xs_NoCounter_NoMove, xs_NoCounter_Unlike, xs_NoCounter_NoWay, xs_NoCounter_NoRoad, xs_NoCounter_TooMany, xs_NoCounter_NoText] <;> rfl
end Zm
set_option Elab.async false
set_option linter.all false
set_option maxRecDepth 100000
set_option autoImplicit false
namespace Zm
open PySem PySem.Spec PyProof.Rows L2
def kst (i : Nat) : Stmt := (PySem.Challenge.pw_movedminutes_k17_moves_refused.main.body[i]?).getD (.Pass ⟨0, 0, 0, 0⟩)
structure Txt (K : PySem.W.Frag) (mg : Str → Option Value) : Prop where
  f__law_bag : ∃ f fd, mg "_law_bag" = some (.ref f) ∧ Fun K "_law_bag" "_law_bag" (kst 45) f fd
  f__law_draw : ∃ f fd, mg "_law_draw" = some (.ref f) ∧ Fun K "_law_draw" "_law_draw" (kst 46) f fd
  f__law_minutes : ∃ f fd, mg "_law_minutes" = some (.ref f) ∧ Fun K "_law_minutes" "_law_minutes" (kst 47) f fd
  f__law_hall : ∃ f fd, mg "_law_hall" = some (.ref f) ∧ Fun K "_law_hall" "_law_hall" (kst 48) f fd
  f__law_no_hall : ∃ f fd, mg "_law_no_hall" = some (.ref f) ∧ Fun K "_law_no_hall" "_law_no_hall" (kst 50) f fd
  f__law_no_number : ∃ f fd, mg "_law_no_number" = some (.ref f) ∧ Fun K "_law_no_number" "_law_no_number" (kst 51) f fd
  f__law_cell_at : ∃ f fd, mg "_law_cell_at" = some (.ref f) ∧ Fun K "_law_cell_at" "_law_cell_at" (kst 44) f fd
  f_is_whole : ∃ f fd, mg "is_whole" = some (.ref f) ∧ Fun K "is_whole" "is_whole" (kst 21) f fd
  f_is_amount : ∃ f fd, mg "is_amount" = some (.ref f) ∧ Fun K "is_amount" "is_amount" (kst 22) f fd
  f_is_row : ∃ f fd, mg "is_row" = some (.ref f) ∧ Fun K "is_row" "is_row" (kst 23) f fd
  f_is_hall : ∃ f fd, mg "is_hall" = some (.ref f) ∧ Fun K "is_hall" "is_hall" (kst 24) f fd
  f_need_hall : ∃ f fd, mg "need_hall" = some (.ref f) ∧ Fun K "need_hall" "need_hall" (kst 25) f fd
  f_need_neighbours : ∃ f fd, mg "need_neighbours" = some (.ref f) ∧ Fun K "need_neighbours" "need_neighbours" (kst 26) f fd
  f_need_both : ∃ f fd, mg "need_both" = some (.ref f) ∧ Fun K "need_both" "need_both" (kst 28) f fd
  f_leads : ∃ f fd, mg "leads" = some (.ref f) ∧ Fun K "leads" "leads" (kst 29) f fd
  f_greatest_lead : ∃ f fd, mg "greatest_lead" = some (.ref f) ∧ Fun K "greatest_lead" "greatest_lead" (kst 30) f fd
  f_can_move_by : ∃ f fd, mg "can_move_by" = some (.ref f) ∧ Fun K "can_move_by" "can_move_by" (kst 31) f fd
  f_with_rows : ∃ f fd, mg "with_rows" = some (.ref f) ∧ Fun K "with_rows" "with_rows" (kst 32) f fd
  f_greatest_ways : ∃ f fd, mg "greatest_ways" = some (.ref f) ∧ Fun K "greatest_ways" "greatest_ways" (kst 33) f fd
  f_with_total_of : ∃ f fd, mg "with_total_of" = some (.ref f) ∧ Fun K "with_total_of" "with_total_of" (kst 34) f fd
  f_moved_by : ∃ f fd, mg "moved_by" = some (.ref f) ∧ Fun K "moved_by" "moved_by" (kst 35) f fd
  f_moved : ∃ f fd, mg "moved" = some (.ref f) ∧ Fun K "moved" "moved" (kst 42) f fd
  f__law_words : ∃ f fd, mg "_law_words" = some (.ref f) ∧ Fun K "_law_words" "_law_words" (kst 49) f fd
  f_with_minute : ∃ f fd, mg "with_minute" = some (.ref f) ∧ Fun K "with_minute" "with_minute" (kst 36) f fd
  f_moved_on : ∃ f fd, mg "moved_on" = some (.ref f) ∧ Fun K "moved_on" "moved_on" (kst 37) f fd
  f_move : ∃ f fd, mg "move" = some (.ref f) ∧ Fun K "move" "move" (kst 39) f fd
  f_moved_back : ∃ f fd, mg "moved_back" = some (.ref f) ∧ Fun K "moved_back" "moved_back" (kst 38) f fd
  f_back : ∃ f fd, mg "back" = some (.ref f) ∧ Fun K "back" "back" (kst 40) f fd
  f_can_move : ∃ f fd, mg "can_move" = some (.ref f) ∧ Fun K "can_move" "can_move" (kst 41) f fd
  f__law_said : ∃ f fd, mg "_law_said" = some (.ref f) ∧ Fun K "_law_said" "_law_said" (kst 52) f fd
  x_NoNumber : ExK K mg "NoNumber"
  x_NoHall : ExK K mg "NoHall"
  x_NoCounter : ExK K mg "NoCounter"
  k_NoHall : ∃ p, mg "NoHall" = some (.ref p) ∧ PySem.W.keepIn K (.ref p) = true
  k_NoDay : ∃ p, mg "NoDay" = some (.ref p) ∧ PySem.W.keepIn K (.ref p) = true
  k_NoCustomer : ∃ p, mg "NoCustomer" = some (.ref p) ∧ PySem.W.keepIn K (.ref p) = true
  k_NoCounter : ∃ p, mg "NoCounter" = some (.ref p) ∧ PySem.W.keepIn K (.ref p) = true
  k_NoNumber : ∃ p, mg "NoNumber" = some (.ref p) ∧ PySem.W.keepIn K (.ref p) = true
  k_NoTotals : ∃ p, mg "NoTotals" = some (.ref p) ∧ PySem.W.keepIn K (.ref p) = true
  k_NoMany : ∃ p, mg "NoMany" = some (.ref p) ∧ PySem.W.keepIn K (.ref p) = true
  k_NoCustomers : ∃ p, mg "NoCustomers" = some (.ref p) ∧ PySem.W.keepIn K (.ref p) = true
  k_NoTowers : ∃ p, mg "NoTowers" = some (.ref p) ∧ PySem.W.keepIn K (.ref p) = true
  k_NoRoom : ∃ p, mg "NoRoom" = some (.ref p) ∧ PySem.W.keepIn K (.ref p) = true
  k_NoMove : ∃ p, mg "NoMove" = some (.ref p) ∧ PySem.W.keepIn K (.ref p) = true
  k_Unlike : ∃ p, mg "Unlike" = some (.ref p) ∧ PySem.W.keepIn K (.ref p) = true
  k_NoWay : ∃ p, mg "NoWay" = some (.ref p) ∧ PySem.W.keepIn K (.ref p) = true
  k_NoRoad : ∃ p, mg "NoRoad" = some (.ref p) ∧ PySem.W.keepIn K (.ref p) = true
  k_TooMany : ∃ p, mg "TooMany" = some (.ref p) ∧ PySem.W.keepIn K (.ref p) = true
  k_NoText : ∃ p, mg "NoText" = some (.ref p) ∧ PySem.W.keepIn K (.ref p) = true
  xcl : ∀ c ∈ (["NoNumber", "NoHall", "NoCounter"] : List Str), ∃ C, mg c = some (.ref C)
  hh : ∃ CH, mg "HallError" = some (.ref CH) ∧ ∀ c ∈ (["NoNumber", "NoHall", "NoCounter"] : List Str), ∀ C, mg c = some (.ref C) → PySem.W.exmOne K (.ref C) (.ref CH) = some true
  xt : ∀ c ∈ (["NoNumber", "NoHall", "NoCounter"] : List Str), XTab K mg (["NoHall", "NoDay", "NoCustomer", "NoCounter", "NoNumber", "NoTotals", "NoMany", "NoCustomers", "NoTowers", "NoRoom", "NoMove", "Unlike", "NoWay", "NoRoad", "TooMany", "NoText"] : List Str) c
  n_ValueError : mg "ValueError" = none
  n_all : mg "all" = none
  n_bool : mg "bool" = none
  n_int : mg "int" = none
  n_isinstance : mg "isinstance" = none
  n_len : mg "len" = none
  n_list : mg "list" = none
  n_max : mg "max" = none
  n_min : mg "min" = none
  n_range : mg "range" = none
  n_repr : mg "repr" = none
  n_sum : mg "sum" = none
  n_tuple : mg "tuple" = none
  n_zip : mg "zip" = none
  c_MOST_COUNTERS : ∃ t, mg "MOST_COUNTERS" = some (.int 8 t)
  c_MOST_CUSTOMERS : ∃ t, mg "MOST_CUSTOMERS" = some (.int 8 t)
section
variable {P : Program} {w : World} {K : PySem.W.Frag} {mg : Str → Option Value} {base : Heap}
theorem sc__law_bag : FnScope ["cell"] ["cell"] (defScope (kst 45)) := ⟨rfl, rfl, rfl, by decide +kernel, rfl, by decide +kernel, by decide +kernel⟩
theorem ok__law_bag (T : Txt K mg) : FnM P w K mg base 1 "_law_bag" ["cell"] f__law_bag := by
  obtain ⟨f, fd, hm, F⟩ := T.f__law_bag
  exact fnM_mk (k := 0) F sc__law_bag hm (F.binds fun _ _ _ _ _ _ us hl => match us, hl with | [_], _ => rfl) fun cdv A out s H E hr hg => (ss_one (ss_ret (s_box (sa_cons (s_blt (call_max2 rfl) v_max2 T.n_max (by rfl) (sa_cons s_int (sa_cons (s_bin op_sub v_sub (s_var 0) (s_bin o_pow v_pow s_int s_int)) sa_nil))) (sa_cons (s_bin op_mod v_mod (s_var 0) (s_bin o_add v_add (s_bin o_pow v_pow s_int s_int) s_int)) (sa_cons s_int sa_nil))))))
theorem sc__law_draw : FnScope ["bag", "sides", "digit"] ["bag", "sides"] (defScope (kst 46)) := ⟨rfl, rfl, rfl, by decide +kernel, rfl, by decide +kernel, by decide +kernel⟩
theorem ok__law_draw (T : Txt K mg) : FnM P w K mg base 1 "_law_draw" ["bag", "sides"] f__law_draw := by
  obtain ⟨f, fd, hm, F⟩ := T.f__law_draw
  exact fnM_mk (k := 0) F sc__law_draw hm (F.binds fun _ _ _ _ _ _ us hl => match us, hl with | [_, _], _ => rfl) fun cdv A out s H E hr hg => (ss_cons (ss_if (st_cmp op_gt v_cmpI (s_ix (s_var 0) s_int) s_int) (ss_cons (ss_setD 2 [true, true] sc__law_draw.nd (s_bin op_mod v_mod (s_ix (s_var 0) s_int) (s_var 1))) (ss_cons (ss_st 0 [true, true] (s_bin op_fdivW v_div (s_ix (s_var 0) s_int) (s_var 1)) s_int) (ss_one (ss_retV 2)))) ss_nil) (ss_cons (ss_st 0 [true] (s_bin o_add v_add (s_ix (s_var 0) s_int) s_int) s_int) (ss_cons (ss_setD 2 [true] sc__law_draw.nd (s_bin op_mod v_mod (s_bin o_pow v_pow (s_bin o_add v_add (s_ix (s_var 0) s_int) (s_bin o_mul v_mul (s_ix (s_var 0) s_int) s_int)) s_int) (s_bin o_add v_add (s_bin o_pow v_pow s_int s_int) s_int))) (ss_cons (ss_setD 2 [true, false, true] sc__law_draw.nd (s_bin op_mod v_mod (s_bin o_pow v_pow (s_bin o_add v_add (s_var 2) (s_bin o_mul v_mul (s_ix (s_var 0) s_int) s_int)) s_int) (s_bin o_add v_add (s_bin o_pow v_pow s_int s_int) s_int))) (ss_one (ss_ret (s_bin op_mod v_mod (s_bin op_fdivW v_div (s_var 2) s_int) (s_var 1))))))))
theorem sc__law_minutes : FnScope ["bag", "lot", "most"] ["bag", "lot"] (defScope (kst 47)) := ⟨rfl, rfl, rfl, by decide +kernel, rfl, by decide +kernel, by decide +kernel⟩
theorem ok__law_minutes (T : Txt K mg) : FnM P w K mg base 2 "_law_minutes" ["bag", "lot"] f__law_minutes := by
  obtain ⟨f, fd, hm, F⟩ := T.f__law_minutes
  have c__law_draw := (ok__law_draw (P := P) (w := w) (base := base) T).mono (by decide : 1 ≤ 1)
  exact fnM_mk (k := 1) F sc__law_minutes hm (F.binds fun _ _ _ _ _ _ us hl => match us, hl with | [_, _], _ => rfl) fun cdv A out s H E hr hg => (ss_cons (ss_setD 2 [false, true] sc__law_minutes.nd (s_ix (s_lst (sa_cons s_int (sa_cons s_int (sa_cons s_int (sa_cons (s_bin o_pow v_pow s_int s_int) (sa_cons s_int sa_nil)))))) (s_var 1))) (ss_cons (ss_if (st_cmp (op_eqD hr.units) v_eq (s_var 2) s_int) (ss_one (ss_setD 2 [true] sc__law_minutes.nd (s_ix (s_lst (sa_cons s_int (sa_cons s_int (sa_cons s_int (sa_cons s_int (sa_cons (s_bin o_pow v_pow s_int s_int) sa_nil)))))) (s_call c__law_draw hr hg (L2N.takes_of rfl rfl rfl rfl) (sa_cons (s_var 0) (sa_cons s_int sa_nil)))))) ss_nil) (ss_one (ss_ret (s_bin o_mul v_mul (s_call c__law_draw hr hg (L2N.takes_of rfl rfl rfl rfl) (sa_cons (s_var 0) (sa_cons (s_var 2) sa_nil))) (s_blt (call_min2 rfl) v_min2 T.n_min (by rfl) (sa_cons s_int (sa_cons (s_call c__law_draw hr hg (L2N.takes_of rfl rfl rfl rfl) (sa_cons (s_var 0) (sa_cons s_int sa_nil))) sa_nil))))))))
theorem sc__law_hall : FnScope ["bag", "rows_upto", "upto", "few", "size", "long", "lot", "k", "row"] ["bag", "rows_upto", "upto", "few"] (defScope (kst 48)) := ⟨rfl, rfl, rfl, by decide +kernel, rfl, by decide +kernel, by decide +kernel⟩
theorem ok__law_hall (T : Txt K mg) : FnM P w K mg base 3 "_law_hall" ["bag", "rows_upto", "upto", "few"] f__law_hall_9811 := by
  obtain ⟨f, fd, hm, F⟩ := T.f__law_hall
  have c__law_minutes := (ok__law_minutes (P := P) (w := w) (base := base) T).mono (by decide : 2 ≤ 2)
  have c__law_draw := (ok__law_draw (P := P) (w := w) (base := base) T).mono (by decide : 1 ≤ 2)
  exact fnM_mk (k := 2) F sc__law_hall hm (F.binds fun _ _ _ _ _ _ us hl => match us, hl with | [_, _, _, _], _ => rfl) fun cdv A out s H E hr hg => (ss_cons (ss_unpD [true, true, true] (s_tup (sa_cons (s_bin o_add v_add s_int (s_call c__law_draw hr hg (L2N.takes_of rfl rfl rfl rfl) (sa_cons (s_var 0) (sa_cons (s_var 1) sa_nil)))) (sa_cons (s_bin o_add v_add s_int (s_call c__law_draw hr hg (L2N.takes_of rfl rfl rfl rfl) (sa_cons (s_var 0) (sa_cons (s_var 2) sa_nil)))) sa_nil))) (sg_t2 rfl (sg_nm 4 sc__law_hall.nd) (sg_nm 5 sc__law_hall.nd))) (ss_cons (ss_setD 6 [true, false, false, true] sc__law_hall.nd (s_call c__law_draw hr hg (L2N.takes_of rfl rfl rfl rfl) (sa_cons (s_var 0) (sa_cons (s_if (st_val (s_var 3)) s_int s_int) sa_nil)))) (ss_one (ss_ret (s_blty call_tuple_of v_tuple T.n_tuple (by rfl) (sa_cons (s_lc (own := [("row", 8)]) rfl sc__law_hall.nd (SI.weak (si_range1 T.n_range (sa_cons (s_var 4) sa_nil))) (blkOk_by rfl) (fun _ _ _ _ _ => (sg_nm 8 sc__law_hall.nd)) (fun _ _ _ _ _ => sts_nil) (fun _ _ _ _ _ => (s_blty call_tuple_of v_tuple T.n_tuple (by rfl) (sa_cons (s_lc (own := [("k", 7)]) rfl sc__law_hall.nd (SI.weak (si_range1 T.n_range (sa_cons (s_var 5) sa_nil))) (blkOk_by rfl) (fun _ _ _ _ _ => (sg_nm 7 sc__law_hall.nd)) (fun _ _ _ _ _ => sts_nil) (fun _ _ _ _ _ => (s_call c__law_minutes hr hg takes0N (sa_cons (s_var 0) (sa_cons (s_var 6) sa_nil))))) sa_nil)))) sa_nil))))))
theorem sc__law_no_hall : FnScope ["bag", "some"] ["bag"] (defScope (kst 50)) := ⟨rfl, rfl, rfl, by decide +kernel, rfl, by decide +kernel, by decide +kernel⟩
theorem ok__law_no_hall (T : Txt K mg) : FnM P w K mg base 2 "_law_no_hall" ["bag"] f__law_no_hall := by
  obtain ⟨f, fd, hm, F⟩ := T.f__law_no_hall
  have c__law_draw := (ok__law_draw (P := P) (w := w) (base := base) T).mono (by decide : 1 ≤ 1)
  exact fnM_mk (k := 1) F sc__law_no_hall hm (F.binds fun _ _ _ _ _ _ us hl => match us, hl with | [_], _ => rfl) fun cdv A out s H E hr hg => (ss_cons (ss_setD 1 [] sc__law_no_hall.nd (s_lst (sa_cons s_non (sa_cons (s_tup sa_nil) (sa_cons (s_tup (sa_cons (s_tup sa_nil) sa_nil)) (sa_cons (s_lst (sa_cons (s_tup (sa_cons s_int (sa_cons s_int sa_nil))) sa_nil)) (sa_cons (s_tup (sa_cons (s_lst (sa_cons s_int (sa_cons s_int sa_nil))) sa_nil)) (sa_cons (s_tup (sa_cons (s_tup (sa_cons s_int (sa_cons s_int sa_nil))) (sa_cons (s_tup (sa_cons s_int sa_nil)) sa_nil))) (sa_cons (s_tup (sa_cons (s_tup (sa_cons (s_un un_neg v_neg s_int) sa_nil)) sa_nil)) (sa_cons (s_tup (sa_cons (s_tup (sa_cons s_bl sa_nil)) sa_nil)) (sa_cons (s_tup (sa_cons (s_tup (sa_cons s_str sa_nil)) sa_nil)) (sa_cons s_int (sa_cons (s_tup (sa_cons (s_tup (sa_cons s_int (sa_cons s_non sa_nil))) sa_nil)) sa_nil))))))))))))) (ss_cons (ss_setD 1 [false, true] sc__law_no_hall.nd (s_bin o_add v_add (s_var 1) (s_lst (sa_cons (s_bin o_mulT v_mulT (s_tup (sa_cons (s_tup (sa_cons s_int sa_nil)) sa_nil)) s_int) (sa_cons (s_tup (sa_cons (s_bin o_mulT v_mulT (s_tup (sa_cons s_int sa_nil)) s_int) sa_nil)) (sa_cons s_dicK (sa_cons (s_tup (sa_cons s_int (sa_cons s_int sa_nil))) sa_nil))))))) (ss_one (ss_ret (s_ix (s_var 1) (s_call c__law_draw hr hg (L2N.takes_of rfl rfl rfl rfl) (sa_cons (s_var 0) (sa_cons s_int sa_nil))))))))
theorem sc__law_no_number : FnScope ["bag", "size"] ["bag", "size"] (defScope (kst 51)) := ⟨rfl, rfl, rfl, by decide +kernel, rfl, by decide +kernel, by decide +kernel⟩
theorem ok__law_no_number (T : Txt K mg) : FnM P w K mg base 2 "_law_no_number" ["bag", "size"] f__law_no_number := by
  obtain ⟨f, fd, hm, F⟩ := T.f__law_no_number
  have c__law_draw := (ok__law_draw (P := P) (w := w) (base := base) T).mono (by decide : 1 ≤ 1)
  exact fnM_mk (k := 1) F sc__law_no_number hm (F.binds fun _ _ _ _ _ _ us hl => match us, hl with | [_, _], _ => rfl) fun cdv A out s H E hr hg => (ss_one (ss_ret (s_ix (s_lst (sa_cons (s_var 1) (sa_cons (s_un un_neg v_neg s_int) (sa_cons s_non (sa_cons s_bl (sa_cons s_str (sa_cons (s_tup (sa_cons s_int sa_nil)) (sa_cons (s_lst (sa_cons s_int sa_nil)) (sa_cons (s_bin o_add v_add (s_var 1) (s_bin o_pow v_pow s_int s_int)) sa_nil))))))))) (s_call c__law_draw hr hg (L2N.takes_of rfl rfl rfl rfl) (sa_cons (s_var 0) (sa_cons s_int sa_nil))))))
theorem sc__law_cell_at : FnScope ["script", "k"] ["script", "k"] (defScope (kst 44)) := ⟨rfl, rfl, rfl, by decide +kernel, rfl, by decide +kernel, by decide +kernel⟩
theorem ok__law_cell_at (T : Txt K mg) : FnM P w K mg base 1 "_law_cell_at" ["script", "k"] f__law_cell_at := by
  obtain ⟨f, fd, hm, F⟩ := T.f__law_cell_at
  exact fnM_mk (k := 0) F sc__law_cell_at hm (F.binds fun _ _ _ _ _ _ us hl => match us, hl with | [_, _], _ => rfl) fun cdv A out s H E hr hg => (ss_cons (ss_if (st_cmp op_lt v_cmpI (s_var 1) (s_blt call_len v_len T.n_len (by rfl) (sa_cons (s_var 0) sa_nil))) (ss_one (ss_ret (s_ix (s_var 0) (s_var 1)))) ss_nil) (ss_one (ss_ret s_int)))
theorem sc_is_whole : FnScope ["thing"] ["thing"] (defScope (kst 21)) := ⟨rfl, rfl, rfl, by decide +kernel, rfl, by decide +kernel, by decide +kernel⟩
theorem ok_is_whole (T : Txt K mg) : FnM P w K mg base 1 "is_whole" ["thing"] f_is_whole := by
  obtain ⟨f, fd, hm, F⟩ := T.f_is_whole
  exact fnM_mk (k := 0) F sc_is_whole hm (F.binds fun _ _ _ _ _ _ us hl => match us, hl with | [_], _ => rfl) fun cdv A out s H E hr hg => (ss_one (ss_ret (s_and (s_blt call_isi v_isi T.n_isinstance (by rfl) (sa_cons (s_var 0) (sa_cons (s_ty T.n_int (by rfl)) sa_nil))) (s_one (s_not (s_blt call_isi v_isi T.n_isinstance (by rfl) (sa_cons (s_var 0) (sa_cons (s_ty T.n_bool (by rfl)) sa_nil))))))))
theorem sc_is_amount : FnScope ["thing"] ["thing"] (defScope (kst 22)) := ⟨rfl, rfl, rfl, by decide +kernel, rfl, by decide +kernel, by decide +kernel⟩
theorem ok_is_amount (T : Txt K mg) : FnM P w K mg base 2 "is_amount" ["thing"] f_is_amount := by
  obtain ⟨f, fd, hm, F⟩ := T.f_is_amount
  have c_is_whole := (ok_is_whole (P := P) (w := w) (base := base) T).mono (by decide : 1 ≤ 1)
  exact fnM_mk (k := 1) F sc_is_amount hm (F.binds fun _ _ _ _ _ _ us hl => match us, hl with | [_], _ => rfl) fun cdv A out s H E hr hg => (ss_one (ss_ret (s_and (s_call c_is_whole hr hg (L2N.takes_of rfl rfl rfl rfl) (sa_cons (s_var 0) sa_nil)) (s_one (s_cmp op_ge v_cmpI (s_var 0) s_int)))))
theorem sc_is_row : FnScope ["thing", "many", "one"] ["thing", "many"] (defScope (kst 23)) := ⟨rfl, rfl, rfl, by decide +kernel, rfl, by decide +kernel, by decide +kernel⟩
theorem ok_is_row (T : Txt K mg) : FnM P w K mg base 3 "is_row" ["thing", "many"] f_is_row := by
  obtain ⟨f, fd, hm, F⟩ := T.f_is_row
  have c_is_amount := (ok_is_amount (P := P) (w := w) (base := base) T).mono (by decide : 2 ≤ 2)
  exact fnM_mk (k := 2) F sc_is_row hm (F.binds fun _ _ _ _ _ _ us hl => match us, hl with | [_, _], _ => rfl) fun cdv A out s H E hr hg => (ss_one (ss_ret (s_and (s_blt call_isi v_isi T.n_isinstance (by rfl) (sa_cons (s_var 0) (sa_cons (s_ty T.n_tuple (by rfl)) sa_nil))) (s_and (s_cmp (op_eqD hr.units) v_eq (s_blt call_len v_len T.n_len (by rfl) (sa_cons (s_var 0) sa_nil)) (s_var 1)) (s_one (s_blt (cr_all rfl) v_all T.n_all (by rfl) (sa_cons (s_lc (own := [("one", 2)]) rfl sc_is_row.nd (si_seq (s_var 0)) (blkOk_by rfl) (fun _ _ _ _ _ => (sg_nm 2 sc_is_row.nd)) (fun _ _ _ _ _ => sts_nil) (fun _ _ _ _ _ => (s_call c_is_amount hr hg takes0N (sa_cons (s_var 2) sa_nil)))) sa_nil)))))))
theorem sc_is_hall : FnScope ["thing", "row"] ["thing"] (defScope (kst 24)) := ⟨rfl, rfl, rfl, by decide +kernel, rfl, by decide +kernel, by decide +kernel⟩
theorem ok_is_hall (T : Txt K mg) : FnM P w K mg base 4 "is_hall" ["thing"] f_is_hall := by
  obtain ⟨f, fd, hm, F⟩ := T.f_is_hall
  have c_is_row := (ok_is_row (P := P) (w := w) (base := base) T).mono (by decide : 3 ≤ 3)
  exact fnM_mk (k := 3) F sc_is_hall hm (F.binds fun _ _ _ _ _ _ us hl => match us, hl with | [_], _ => rfl) fun cdv A out s H E hr hg => (ss_cons (ss_if (SW.st (sw_or (st_not (st_val (s_blt call_isi v_isi T.n_isinstance (by rfl) (sa_cons (s_var 0) (sa_cons (s_ty T.n_tuple (by rfl)) sa_nil))))) (sw_or (st_not (st_chain op_le op_le v_cmpI v_cmpI s_int (s_blt call_len v_len T.n_len (by rfl) (sa_cons (s_var 0) sa_nil)) (s_gi T.c_MOST_COUNTERS.choose_spec))) (sw_or1 (st_not (st_val (s_blt call_isi v_isi T.n_isinstance (by rfl) (sa_cons (s_ix (s_var 0) s_int) (sa_cons (s_ty T.n_tuple (by rfl)) sa_nil))))))))) (ss_one (ss_ret s_bl)) ss_nil) (ss_one (ss_ret (s_and (s_chain op_le op_le v_cmpI v_cmpI s_int (s_blt call_len v_len T.n_len (by rfl) (sa_cons (s_ix (s_var 0) s_int) sa_nil)) (s_gi T.c_MOST_CUSTOMERS.choose_spec)) (s_one (s_blt (cr_all rfl) v_all T.n_all (by rfl) (sa_cons (s_lc (own := [("row", 1)]) rfl sc_is_hall.nd (si_seq (s_var 0)) (blkOk_by rfl) (fun _ _ _ _ _ => (sg_nm 1 sc_is_hall.nd)) (fun _ _ _ _ _ => sts_nil) (fun _ _ _ _ _ => (s_call c_is_row hr hg takes0N (sa_cons (s_var 1) (sa_cons (s_blt call_len v_len T.n_len (by rfl) (sa_cons (s_ix (s_var 0) s_int) sa_nil)) sa_nil))))) sa_nil)))))))
theorem sc_need_hall : FnScope ["hall"] ["hall"] (defScope (kst 25)) := ⟨rfl, rfl, rfl, by decide +kernel, rfl, by decide +kernel, by decide +kernel⟩
theorem ok_need_hall (T : Txt K mg) : FnM P w K mg base 5 "need_hall" ["hall"] f_need_hallx := by
  obtain ⟨f, fd, hm, F⟩ := T.f_need_hall
  have c_is_hall := (ok_is_hall (P := P) (w := w) (base := base) T).mono (by decide : 4 ≤ 4)
  exact fnM_mk (k := 4) F sc_need_hall hm (F.binds fun _ _ _ _ _ _ us hl => match us, hl with | [_], _ => rfl) fun cdv A out s H E hr hg => (ss_one (ss_if (st_not (st_val (s_call c_is_hall hr hg (L2N.takes_of rfl rfl rfl rfl) (sa_cons (s_var 0) sa_nil)))) (ss_one (ss_raise0 T.x_NoHall (L2N.takes_of rfl rfl rfl rfl))) ss_nil))
theorem sc_need_neighbours : FnScope ["hall", "counter"] ["hall", "counter"] (defScope (kst 26)) := ⟨rfl, rfl, rfl, by decide +kernel, rfl, by decide +kernel, by decide +kernel⟩
theorem ok_need_neighbours (T : Txt K mg) : FnM P w K mg base 3 "need_neighbours" ["hall", "counter"] f_need_neighboursx := by
  obtain ⟨f, fd, hm, F⟩ := T.f_need_neighbours
  have c_is_amount := (ok_is_amount (P := P) (w := w) (base := base) T).mono (by decide : 2 ≤ 2)
  exact fnM_mk (k := 2) F sc_need_neighbours hm (F.binds fun _ _ _ _ _ _ us hl => match us, hl with | [_, _], _ => rfl) fun cdv A out s H E hr hg => (ss_one (ss_if (SW.st (sw_or (st_not (st_val (s_call c_is_amount hr hg (L2N.takes_of rfl rfl rfl rfl) (sa_cons (s_var 1) sa_nil)))) (sw_or1 (st_cmp op_ge v_cmpI (s_var 1) (s_bin op_sub v_sub (s_blt call_len v_len T.n_len (by rfl) (sa_cons (s_var 0) sa_nil)) s_int))))) (ss_one (ss_raise0 T.x_NoCounter (L2N.takes_of rfl rfl rfl rfl))) ss_nil))
theorem sc_need_both : FnScope ["hall", "counter"] ["hall", "counter"] (defScope (kst 28)) := ⟨rfl, rfl, rfl, by decide +kernel, rfl, by decide +kernel, by decide +kernel⟩
theorem ok_need_both (T : Txt K mg) : FnM P w K mg base 6 "need_both" ["hall", "counter"] f_need_bothx := by
  obtain ⟨f, fd, hm, F⟩ := T.f_need_both
  have c_need_neighbours := (ok_need_neighbours (P := P) (w := w) (base := base) T).mono (by decide : 3 ≤ 5)
  have c_need_hall := (ok_need_hall (P := P) (w := w) (base := base) T).mono (by decide : 5 ≤ 5)
  exact fnM_mk (k := 5) F sc_need_both hm (F.binds fun _ _ _ _ _ _ us hl => match us, hl with | [_, _], _ => rfl) fun cdv A out s H E hr hg => (ss_cons (ss_do (s_call c_need_hall hr hg (L2N.takes_of rfl rfl rfl rfl) (sa_cons (s_var 0) sa_nil))) (ss_one (ss_do (s_call c_need_neighbours hr hg (L2N.takes_of rfl rfl rfl rfl) (sa_cons (s_var 0) (sa_cons (s_var 1) sa_nil))))))
theorem sc_leads : FnScope ["hall", "counter", "found", "lead", "behind", "here", "there"] ["hall", "counter"] (defScope (kst 29)) := ⟨rfl, rfl, rfl, by decide +kernel, rfl, by decide +kernel, by decide +kernel⟩
theorem ok_leads (T : Txt K mg) : FnM P w K mg base 1 "leads" ["hall", "counter"] f_leads := by
  obtain ⟨f, fd, hm, F⟩ := T.f_leads
  exact fnM_mk (k := 0) F sc_leads hm (F.binds fun _ _ _ _ _ _ us hl => match us, hl with | [_, _], _ => rfl) fun cdv A out s H E hr hg => (ss_cons (ss_setD 2 [] sc_leads.nd (s_lst sa_nil)) (ss_cons (ss_setD 3 [] sc_leads.nd s_int) (ss_cons (ss_setD 4 [] sc_leads.nd s_int) (ss_cons (ss_for [true, true] (passes_of rfl) rfl (si_zip2 T.n_zip (sa_cons (s_ix (s_var 0) (s_var 1)) (sa_cons (s_ix (s_var 0) (s_bin o_add v_add (s_var 1) s_int)) sa_nil))) (sg_t2 rfl (sg_nm 5 sc_leads.nd) (sg_nm 6 sc_leads.nd)) (ss_cons (ss_augAdd 3 sc_leads.nd (s_bin op_sub v_sub (s_var 5) (s_var 4))) (ss_cons (ss_setD 4 [false, false, false, false, false, false, true] sc_leads.nd (s_var 6)) (ss_one (ss_appD 2 [false, false, false, true] (s_var 3)))))) (ss_one (ss_retV 2))))))
theorem sc_greatest_lead : FnScope ["hall", "counter"] ["hall", "counter"] (defScope (kst 30)) := ⟨rfl, rfl, rfl, by decide +kernel, rfl, by decide +kernel, by decide +kernel⟩
theorem ok_greatest_lead (T : Txt K mg) : FnM P w K mg base 2 "greatest_lead" ["hall", "counter"] f_greatest_lead := by
  obtain ⟨f, fd, hm, F⟩ := T.f_greatest_lead
  have c_leads := (ok_leads (P := P) (w := w) (base := base) T).mono (by decide : 1 ≤ 1)
  exact fnM_mk (k := 1) F sc_greatest_lead hm (F.binds fun _ _ _ _ _ _ us hl => match us, hl with | [_, _], _ => rfl) fun cdv A out s H E hr hg => (ss_one (ss_ret (s_blt (CallR.or (cr_max rfl) (cr_maxT rfl hr.units)) (OpV.or v_maxL v_maxT) T.n_max (by rfl) (sa_cons (s_call c_leads hr hg (L2N.takes_of rfl rfl rfl rfl) (sa_cons (s_var 0) (sa_cons (s_var 1) sa_nil))) sa_nil))))
theorem sc_can_move_by : FnScope ["hall", "counter", "on"] ["hall", "counter"] (defScope (kst 31)) := ⟨rfl, rfl, rfl, by decide +kernel, rfl, by decide +kernel, by decide +kernel⟩
theorem ok_can_move_by (T : Txt K mg) : FnM P w K mg base 3 "can_move_by" ["hall", "counter"] f_can_move_by := by
  obtain ⟨f, fd, hm, F⟩ := T.f_can_move_by
  have c_greatest_lead := (ok_greatest_lead (P := P) (w := w) (base := base) T).mono (by decide : 2 ≤ 2)
  exact fnM_mk (k := 2) F sc_can_move_by hm (F.binds fun _ _ _ _ _ _ us hl => match us, hl with | [_, _], _ => rfl) fun cdv A out s H E hr hg => (ss_cons (ss_setD 2 [true, true] sc_can_move_by.nd (s_call c_greatest_lead hr hg (L2N.takes_of rfl rfl rfl rfl) (sa_cons (s_var 0) (sa_cons (s_var 1) sa_nil)))) (ss_one (ss_ret (s_tup (sa_cons (s_var 2) (sa_cons (s_bin op_sub v_sub (s_bin o_add v_add (s_var 2) (s_blt (CallR.or (cr_sum rfl) (cr_sumT rfl)) (OpV.or v_sum v_sumT) T.n_sum (by rfl) (sa_cons (s_ix (s_var 0) (s_bin o_add v_add (s_var 1) s_int)) sa_nil))) (s_blt (CallR.or (cr_sum rfl) (cr_sumT rfl)) (OpV.or v_sum v_sumT) T.n_sum (by rfl) (sa_cons (s_ix (s_var 0) (s_var 1)) sa_nil))) sa_nil))))))
theorem sc_with_rows : FnScope ["hall", "counter", "here", "there"] ["hall", "counter", "here", "there"] (defScope (kst 32)) := ⟨rfl, rfl, rfl, by decide +kernel, rfl, by decide +kernel, by decide +kernel⟩
theorem ok_with_rows (T : Txt K mg) : FnM P w K mg base 1 "with_rows" ["hall", "counter", "here", "there"] f_with_rows := by
  obtain ⟨f, fd, hm, F⟩ := T.f_with_rows
  exact fnM_mk (k := 0) F sc_with_rows hm (F.binds fun _ _ _ _ _ _ us hl => match us, hl with | [_, _, _, _], _ => rfl) fun cdv A out s H E hr hg => (ss_one (ss_ret (s_bin o_add v_add (s_bin o_add v_add (s_sl01 (s_var 0) (s_var 1)) (s_tup (sa_cons (s_blty call_tuple_of v_tuple T.n_tuple (by rfl) (sa_cons (s_var 2) sa_nil)) (sa_cons (s_blty call_tuple_of v_tuple T.n_tuple (by rfl) (sa_cons (s_var 3) sa_nil)) sa_nil)))) (s_sl10 (s_var 0) (s_bin o_add v_add (s_var 1) s_int)))))
theorem sc_greatest_ways : FnScope ["hall", "counter", "found", "most", "ahead", "lead", "there"] ["hall", "counter"] (defScope (kst 33)) := ⟨rfl, rfl, rfl, by decide +kernel, rfl, by decide +kernel, by decide +kernel⟩
theorem ok_greatest_ways (T : Txt K mg) : FnM P w K mg base 2 "greatest_ways" ["hall", "counter"] f_greatest_ways := by
  obtain ⟨f, fd, hm, F⟩ := T.f_greatest_ways
  have c_leads := (ok_leads (P := P) (w := w) (base := base) T).mono (by decide : 1 ≤ 1)
  exact fnM_mk (k := 1) F sc_greatest_ways hm (F.binds fun _ _ _ _ _ _ us hl => match us, hl with | [_, _], _ => rfl) fun cdv A out s H E hr hg => (ss_cons (ss_setD 2 [] sc_greatest_ways.nd (s_lst sa_nil)) (ss_cons (ss_setD 3 [] sc_greatest_ways.nd s_int) (ss_cons (ss_setD 4 [] sc_greatest_ways.nd s_int) (ss_cons (ss_for [true, true] (passes_of rfl) rfl (si_zip2 T.n_zip (sa_cons (s_call c_leads hr hg (L2N.takes_of rfl rfl rfl rfl) (sa_cons (s_var 0) (sa_cons (s_var 1) sa_nil))) (sa_cons (s_ix (s_var 0) (s_bin o_add v_add (s_var 1) s_int)) sa_nil))) (sg_t2 rfl (sg_nm 5 sc_greatest_ways.nd) (sg_nm 6 sc_greatest_ways.nd)) (ss_cons (ss_setD 3 [false, false, false, true, false, true] sc_greatest_ways.nd (s_blt (call_max2 rfl) v_max2 T.n_max (by rfl) (sa_cons (s_var 3) (sa_cons (s_var 5) sa_nil)))) (ss_cons (ss_augAdd 4 sc_greatest_ways.nd (s_var 6)) (ss_one (ss_appD 2 [false, false, false, true, true] (s_bin o_add v_add (s_var 3) (s_var 4))))))) (ss_one (ss_retV 2))))))
theorem sc_with_total_of : FnScope ["hall", "counter", "total", "ways", "here", "there", "customer", "both"] ["hall", "counter", "total"] (defScope (kst 34)) := ⟨rfl, rfl, rfl, by decide +kernel, rfl, by decide +kernel, by decide +kernel⟩
theorem ok_with_total_of (T : Txt K mg) : FnM P w K mg base 3 "with_total_of" ["hall", "counter", "total"] f_with_total_of := by
  obtain ⟨f, fd, hm, F⟩ := T.f_with_total_of
  have c_with_rows := (ok_with_rows (P := P) (w := w) (base := base) T).mono (by decide : 1 ≤ 2)
  have c_greatest_ways := (ok_greatest_ways (P := P) (w := w) (base := base) T).mono (by decide : 2 ≤ 2)
  exact fnM_mk (k := 2) F sc_with_total_of hm (F.binds fun _ _ _ _ _ _ us hl => match us, hl with | [_, _, _], _ => rfl) fun cdv A out s H E hr hg => (ss_cons (ss_setD 3 [true, true] sc_with_total_of.nd (s_bin o_add v_add (s_lst (sa_cons s_int sa_nil)) (s_call c_greatest_ways hr hg (L2N.takes_of rfl rfl rfl rfl) (sa_cons (s_var 0) (sa_cons (s_var 1) sa_nil))))) (ss_cons (ss_setD 4 [] sc_with_total_of.nd (s_lst sa_nil)) (ss_cons (ss_setD 5 [] sc_with_total_of.nd (s_lst sa_nil)) (ss_cons (ss_forP (passes_of rfl) rfl (si_range3 T.n_range (sa_cons (s_bin op_sub v_sub (s_blt call_len v_len T.n_len (by rfl) (sa_cons (s_ix (s_var 0) (s_var 1)) sa_nil)) s_int) (sa_cons (s_un un_neg v_neg s_int) (sa_cons (s_un un_neg v_neg s_int) sa_nil)))) (sg_nm 6 sc_with_total_of.nd) (ss_cons (ss_setD 7 [true, true, false, false, false, false, true] sc_with_total_of.nd (s_bin o_add v_add (s_ix (s_ix (s_var 0) (s_var 1)) (s_var 6)) (s_ix (s_ix (s_var 0) (s_bin o_add v_add (s_var 1) s_int)) (s_var 6)))) (ss_cons (ss_appD 5 [false, false, true, true, false, false, true] (s_bin op_sub v_sub (s_ix (s_var 3) (s_bin o_add v_add (s_var 6) s_int)) (s_blt (call_max2 rfl) v_max2 T.n_max (by rfl) (sa_cons (s_ix (s_var 3) (s_var 6)) (sa_cons (s_var 2) sa_nil))))) (ss_cons (ss_appD 4 [false, false, false, false, false, true, false, true] (s_bin op_sub v_sub (s_var 7) (s_ix (s_var 5) (s_un un_neg v_neg s_int)))) (ss_one (ss_augSub 2 sc_with_total_of.nd (s_ix (s_var 4) (s_un un_neg v_neg s_int)))))))) (ss_one (ss_ret (s_call c_with_rows hr hg (L2N.takes_of rfl rfl rfl rfl) (sa_cons (s_var 0) (sa_cons (s_var 1) (sa_cons (s_rev (s_var 4)) (sa_cons (s_rev (s_var 5)) sa_nil)))))))))))
theorem sc_moved_by : FnScope ["hall", "counter", "many", "on", "behind"] ["hall", "counter", "many"] (defScope (kst 35)) := ⟨rfl, rfl, rfl, by decide +kernel, rfl, by decide +kernel, by decide +kernel⟩
theorem ok_moved_by (T : Txt K mg) : FnM P w K mg base 4 "moved_by" ["hall", "counter", "many"] f_moved_by := by
  obtain ⟨f, fd, hm, F⟩ := T.f_moved_by
  have c_with_total_of := (ok_with_total_of (P := P) (w := w) (base := base) T).mono (by decide : 3 ≤ 3)
  have c_can_move_by := (ok_can_move_by (P := P) (w := w) (base := base) T).mono (by decide : 3 ≤ 3)
  exact fnM_mk (k := 3) F sc_moved_by hm (F.binds fun _ _ _ _ _ _ us hl => match us, hl with | [_, _, _], _ => rfl) fun cdv A out s H E hr hg => (ss_cons (ss_unpD [true, true] (s_call c_can_move_by hr hg (L2N.takes_of rfl rfl rfl rfl) (sa_cons (s_var 0) (sa_cons (s_var 1) sa_nil))) (sg_t2 rfl (sg_nm 3 sc_moved_by.nd) (sg_nm 4 sc_moved_by.nd))) (ss_cons (ss_if (SW.st (sw_or (st_cmp op_gt v_cmpI (s_var 2) (s_var 3)) (sw_or1 (st_cmp op_lt v_cmpI (s_var 2) (s_bin op_sub v_sub s_int (s_var 4)))))) (ss_one (ss_ret s_non)) ss_nil) (ss_one (ss_ret (s_call c_with_total_of hr hg (L2N.takes_of rfl rfl rfl rfl) (sa_cons (s_var 0) (sa_cons (s_var 1) (sa_cons (s_bin op_sub v_sub (s_blt (CallR.or (cr_sum rfl) (cr_sumT rfl)) (OpV.or v_sum v_sumT) T.n_sum (by rfl) (sa_cons (s_ix (s_var 0) (s_var 1)) sa_nil)) (s_var 2)) sa_nil))))))))
theorem sc_moved : FnScope ["hall", "counter", "many"] ["hall", "counter", "many"] (defScope (kst 42)) := ⟨rfl, rfl, rfl, by decide +kernel, rfl, by decide +kernel, by decide +kernel⟩
theorem ok_moved (T : Txt K mg) : FnM P w K mg base 7 "moved" ["hall", "counter", "many"] f_movedx := by
  obtain ⟨f, fd, hm, F⟩ := T.f_moved
  have c_moved_by := (ok_moved_by (P := P) (w := w) (base := base) T).mono (by decide : 4 ≤ 6)
  have c_is_whole := (ok_is_whole (P := P) (w := w) (base := base) T).mono (by decide : 1 ≤ 6)
  have c_need_both := (ok_need_both (P := P) (w := w) (base := base) T).mono (by decide : 6 ≤ 6)
  exact fnM_mk (k := 6) F sc_moved hm (F.binds fun _ _ _ _ _ _ us hl => match us, hl with | [_, _, _], _ => rfl) fun cdv A out s H E hr hg => (ss_cons (ss_do (s_call c_need_both hr hg (L2N.takes_of rfl rfl rfl rfl) (sa_cons (s_var 0) (sa_cons (s_var 1) sa_nil)))) (ss_cons (ss_if (st_not (st_val (s_call c_is_whole hr hg (L2N.takes_of rfl rfl rfl rfl) (sa_cons (s_var 2) sa_nil)))) (ss_one (ss_raise0 T.x_NoNumber (L2N.takes_of rfl rfl rfl rfl))) ss_nil) (ss_one (ss_ret (s_call c_moved_by hr hg (L2N.takes_of rfl rfl rfl rfl) (sa_cons (s_var 0) (sa_cons (s_var 1) (sa_cons (s_var 2) sa_nil))))))))
theorem sc__law_words : FnScope (["e", "some", "word", "fits"] : List Str) (["e"] : List Str) (defScope (kst 49)) := ⟨rfl, rfl, rfl, by decide +kernel, rfl, by decide +kernel, by decide +kernel⟩
theorem ok__law_words (T : Txt K mg) : FnX P w K mg base 1 "_law_words" (["e"] : List Str) (["NoNumber", "NoHall", "NoCounter"] : List Str) fx__law_words_k17 := by
  obtain ⟨f, fd, hm, F⟩ := T.f__law_words
  show FnX P w K mg base _ _ _ _ (fun c a => mkFn 1 4 (fx__law_words_k17_b c a))
  exact fnX_mk (k := 0) F sc__law_words hm (F.binds fun _ _ _ _ _ _ us hl => match us, hl with | [_], _ => rfl) fun cdv c C p A out s H E hcX gCX hzX hotX hr => by
    have hpX : p ∈ (cxE P w K mg base (["e", "some", "word", "fits"] : List Str) "_law_words" (defScope (kst 49)) f cdv A out s H E p).pn := List.mem_singleton.mpr rfl
    exact (ss_cons (ss_setD 1 [true] sc__law_words.nd (s_lst (sa_cons (s_tup (sa_cons s_str (sa_cons (s_isX (T.xt c hcX) gCX hpX hzX hotX T.n_isinstance (sa_cons (s_var 0) (sa_cons (s_fn T.k_NoHall.choose_spec.1 T.k_NoHall.choose_spec.2) sa_nil))) sa_nil))) (sa_cons (s_tup (sa_cons s_str (sa_cons (s_isX (T.xt c hcX) gCX hpX hzX hotX T.n_isinstance (sa_cons (s_var 0) (sa_cons (s_fn T.k_NoDay.choose_spec.1 T.k_NoDay.choose_spec.2) sa_nil))) sa_nil))) sa_nil)))) (ss_cons (ss_setD 1 [true, true] sc__law_words.nd (s_bin o_add v_add (s_var 1) (s_lst (sa_cons (s_tup (sa_cons s_str (sa_cons (s_isX (T.xt c hcX) gCX hpX hzX hotX T.n_isinstance (sa_cons (s_var 0) (sa_cons (s_fn T.k_NoCustomer.choose_spec.1 T.k_NoCustomer.choose_spec.2) sa_nil))) sa_nil))) (sa_cons (s_tup (sa_cons s_str (sa_cons (s_isX (T.xt c hcX) gCX hpX hzX hotX T.n_isinstance (sa_cons (s_var 0) (sa_cons (s_fn T.k_NoCounter.choose_spec.1 T.k_NoCounter.choose_spec.2) sa_nil))) sa_nil))) sa_nil))))) (ss_cons (ss_setD 1 [true, true] sc__law_words.nd (s_bin o_add v_add (s_var 1) (s_lst (sa_cons (s_tup (sa_cons s_str (sa_cons (s_isX (T.xt c hcX) gCX hpX hzX hotX T.n_isinstance (sa_cons (s_var 0) (sa_cons (s_fn T.k_NoNumber.choose_spec.1 T.k_NoNumber.choose_spec.2) sa_nil))) sa_nil))) (sa_cons (s_tup (sa_cons s_str (sa_cons (s_isX (T.xt c hcX) gCX hpX hzX hotX T.n_isinstance (sa_cons (s_var 0) (sa_cons (s_fn T.k_NoTotals.choose_spec.1 T.k_NoTotals.choose_spec.2) sa_nil))) sa_nil))) sa_nil))))) (ss_cons (ss_setD 1 [true, true] sc__law_words.nd (s_bin o_add v_add (s_var 1) (s_lst (sa_cons (s_tup (sa_cons s_str (sa_cons (s_isX (T.xt c hcX) gCX hpX hzX hotX T.n_isinstance (sa_cons (s_var 0) (sa_cons (s_fn T.k_NoMany.choose_spec.1 T.k_NoMany.choose_spec.2) sa_nil))) sa_nil))) (sa_cons (s_tup (sa_cons s_str (sa_cons (s_isX (T.xt c hcX) gCX hpX hzX hotX T.n_isinstance (sa_cons (s_var 0) (sa_cons (s_fn T.k_NoCustomers.choose_spec.1 T.k_NoCustomers.choose_spec.2) sa_nil))) sa_nil))) sa_nil))))) (ss_cons (ss_setD 1 [true, true] sc__law_words.nd (s_bin o_add v_add (s_var 1) (s_lst (sa_cons (s_tup (sa_cons s_str (sa_cons (s_isX (T.xt c hcX) gCX hpX hzX hotX T.n_isinstance (sa_cons (s_var 0) (sa_cons (s_fn T.k_NoTowers.choose_spec.1 T.k_NoTowers.choose_spec.2) sa_nil))) sa_nil))) (sa_cons (s_tup (sa_cons s_str (sa_cons (s_isX (T.xt c hcX) gCX hpX hzX hotX T.n_isinstance (sa_cons (s_var 0) (sa_cons (s_fn T.k_NoRoom.choose_spec.1 T.k_NoRoom.choose_spec.2) sa_nil))) sa_nil))) sa_nil))))) (ss_cons (ss_setD 1 [true, true] sc__law_words.nd (s_bin o_add v_add (s_var 1) (s_lst (sa_cons (s_tup (sa_cons s_str (sa_cons (s_isX (T.xt c hcX) gCX hpX hzX hotX T.n_isinstance (sa_cons (s_var 0) (sa_cons (s_fn T.k_NoMove.choose_spec.1 T.k_NoMove.choose_spec.2) sa_nil))) sa_nil))) (sa_cons (s_tup (sa_cons s_str (sa_cons (s_isX (T.xt c hcX) gCX hpX hzX hotX T.n_isinstance (sa_cons (s_var 0) (sa_cons (s_fn T.k_Unlike.choose_spec.1 T.k_Unlike.choose_spec.2) sa_nil))) sa_nil))) sa_nil))))) (ss_cons (ss_setD 1 [true, true] sc__law_words.nd (s_bin o_add v_add (s_var 1) (s_lst (sa_cons (s_tup (sa_cons s_str (sa_cons (s_isX (T.xt c hcX) gCX hpX hzX hotX T.n_isinstance (sa_cons (s_var 0) (sa_cons (s_fn T.k_NoWay.choose_spec.1 T.k_NoWay.choose_spec.2) sa_nil))) sa_nil))) (sa_cons (s_tup (sa_cons s_str (sa_cons (s_isX (T.xt c hcX) gCX hpX hzX hotX T.n_isinstance (sa_cons (s_var 0) (sa_cons (s_fn T.k_NoRoad.choose_spec.1 T.k_NoRoad.choose_spec.2) sa_nil))) sa_nil))) sa_nil))))) (ss_cons (ss_setD 1 [true, true] sc__law_words.nd (s_bin o_add v_add (s_var 1) (s_lst (sa_cons (s_tup (sa_cons s_str (sa_cons (s_isX (T.xt c hcX) gCX hpX hzX hotX T.n_isinstance (sa_cons (s_var 0) (sa_cons (s_fn T.k_TooMany.choose_spec.1 T.k_TooMany.choose_spec.2) sa_nil))) sa_nil))) (sa_cons (s_tup (sa_cons s_str (sa_cons (s_isX (T.xt c hcX) gCX hpX hzX hotX T.n_isinstance (sa_cons (s_var 0) (sa_cons (s_fn T.k_NoText.choose_spec.1 T.k_NoText.choose_spec.2) sa_nil))) sa_nil))) sa_nil))))) (ss_cons (ss_appD 1 [true] (s_tup (sa_cons s_str (sa_cons (s_isX (T.xt c hcX) gCX hpX hzX hotX T.n_isinstance (sa_cons (s_var 0) (sa_cons (s_ty T.n_ValueError (by rfl)) sa_nil))) sa_nil)))) (ss_one (ss_ret (s_lcH (own := [("word", 2), ("fits", 3)]) (hot_of hotX hpX) sc__law_words.nd (si_listH (s_var 1)) (blkOk_by rfl) (fun _ _ _ _ _ => (sg_t2H (hot_of hotX hpX) (sg_nm 2 sc__law_words.nd) (sg_nm 3 sc__law_words.nd))) (fun _ _ _ _ _ => (sts_one (st_val (s_var 3)))) (fun _ _ _ _ _ => (s_var 2))))))))))))))
theorem sc_with_minute : FnScope ["hall", "counter", "customer", "by", "here", "there"] ["hall", "counter", "customer", "by"] (defScope (kst 36)) := ⟨rfl, rfl, rfl, by decide +kernel, rfl, by decide +kernel, by decide +kernel⟩
theorem ok_with_minute (T : Txt K mg) : FnM P w K mg base 2 "with_minute" ["hall", "counter", "customer", "by"] f_with_minute := by
  obtain ⟨f, fd, hm, F⟩ := T.f_with_minute
  have c_with_rows := (ok_with_rows (P := P) (w := w) (base := base) T).mono (by decide : 1 ≤ 1)
  exact fnM_mk (k := 1) F sc_with_minute hm (F.binds fun _ _ _ _ _ _ us hl => match us, hl with | [_, _, _, _], _ => rfl) fun cdv A out s H E hr hg => (ss_cons (ss_setD 4 [true, true] sc_with_minute.nd (s_blty call_list_of v_list T.n_list (by rfl) (sa_cons (s_ix (s_var 0) (s_var 1)) sa_nil))) (ss_cons (ss_setD 5 [true, true] sc_with_minute.nd (s_blty call_list_of v_list T.n_list (by rfl) (sa_cons (s_ix (s_var 0) (s_bin o_add v_add (s_var 1) s_int)) sa_nil))) (ss_cons (ss_augISub 4 (s_var 2) (s_var 3)) (ss_cons (ss_augIAdd 5 (s_var 2) (s_var 3)) (ss_one (ss_ret (s_call c_with_rows hr hg (L2N.takes_of rfl rfl rfl rfl) (sa_cons (s_var 0) (sa_cons (s_var 1) (sa_cons (s_var 4) (sa_cons (s_var 5) sa_nil)))))))))))
theorem sc_moved_on : FnScope ["hall", "counter", "row", "most"] ["hall", "counter"] (defScope (kst 37)) := ⟨rfl, rfl, rfl, by decide +kernel, rfl, by decide +kernel, by decide +kernel⟩
theorem ok_moved_on (T : Txt K mg) : FnM P w K mg base 3 "moved_on" ["hall", "counter"] f_moved_on := by
  obtain ⟨f, fd, hm, F⟩ := T.f_moved_on
  have c_with_minute := (ok_with_minute (P := P) (w := w) (base := base) T).mono (by decide : 2 ≤ 2)
  have c_leads := (ok_leads (P := P) (w := w) (base := base) T).mono (by decide : 1 ≤ 2)
  exact fnM_mk (k := 2) F sc_moved_on hm (F.binds fun _ _ _ _ _ _ us hl => match us, hl with | [_, _], _ => rfl) fun cdv A out s H E hr hg => (ss_cons (ss_setD 2 [true, true] sc_moved_on.nd (s_call c_leads hr hg (L2N.takes_of rfl rfl rfl rfl) (sa_cons (s_var 0) (sa_cons (s_var 1) sa_nil)))) (ss_cons (ss_setD 3 [false, false, true] sc_moved_on.nd (s_blt (CallR.or (cr_max rfl) (cr_maxT rfl hr.units)) (OpV.or v_maxL v_maxT) T.n_max (by rfl) (sa_cons (s_var 2) sa_nil))) (ss_one (ss_ret (s_if (st_cmp (op_eqD hr.units) v_eq (s_var 3) s_int) s_non (s_call c_with_minute hr hg (L2N.takes_of rfl rfl rfl rfl) (sa_cons (s_var 0) (sa_cons (s_var 1) (sa_cons (s_index (s_var 2) (s_var 3)) (sa_cons s_int sa_nil))))))))))
theorem sc_move : FnScope ["hall", "counter"] ["hall", "counter"] (defScope (kst 39)) := ⟨rfl, rfl, rfl, by decide +kernel, rfl, by decide +kernel, by decide +kernel⟩
theorem ok_move (T : Txt K mg) : FnM P w K mg base 7 "move" ["hall", "counter"] f_movex := by
  obtain ⟨f, fd, hm, F⟩ := T.f_move
  have c_moved_on := (ok_moved_on (P := P) (w := w) (base := base) T).mono (by decide : 3 ≤ 6)
  have c_need_both := (ok_need_both (P := P) (w := w) (base := base) T).mono (by decide : 6 ≤ 6)
  exact fnM_mk (k := 6) F sc_move hm (F.binds fun _ _ _ _ _ _ us hl => match us, hl with | [_, _], _ => rfl) fun cdv A out s H E hr hg => (ss_cons (ss_do (s_call c_need_both hr hg (L2N.takes_of rfl rfl rfl rfl) (sa_cons (s_var 0) (sa_cons (s_var 1) sa_nil)))) (ss_one (ss_ret (s_call c_moved_on hr hg (L2N.takes_of rfl rfl rfl rfl) (sa_cons (s_var 0) (sa_cons (s_var 1) sa_nil))))))
theorem sc_moved_back : FnScope ["hall", "counter", "row", "last"] ["hall", "counter"] (defScope (kst 38)) := ⟨rfl, rfl, rfl, by decide +kernel, rfl, by decide +kernel, by decide +kernel⟩
theorem ok_moved_back (T : Txt K mg) : FnM P w K mg base 4 "moved_back" ["hall", "counter"] f_moved_back := by
  obtain ⟨f, fd, hm, F⟩ := T.f_moved_back
  have c_with_minute := (ok_with_minute (P := P) (w := w) (base := base) T).mono (by decide : 2 ≤ 3)
  have c_leads := (ok_leads (P := P) (w := w) (base := base) T).mono (by decide : 1 ≤ 3)
  have c_can_move_by := (ok_can_move_by (P := P) (w := w) (base := base) T).mono (by decide : 3 ≤ 3)
  exact fnM_mk (k := 3) F sc_moved_back hm (F.binds fun _ _ _ _ _ _ us hl => match us, hl with | [_, _], _ => rfl) fun cdv A out s H E hr hg => (ss_cons (ss_if (st_cmp (op_eqD hr.units) v_eq (s_ix (s_call c_can_move_by hr hg (L2N.takes_of rfl rfl rfl rfl) (sa_cons (s_var 0) (sa_cons (s_var 1) sa_nil))) s_int) s_int) (ss_one (ss_ret s_non)) ss_nil) (ss_cons (ss_setD 2 [true, true] sc_moved_back.nd (s_call c_leads hr hg (L2N.takes_of rfl rfl rfl rfl) (sa_cons (s_var 0) (sa_cons (s_var 1) sa_nil)))) (ss_cons (ss_setD 3 [false, false, true] sc_moved_back.nd (s_bin op_sub v_sub (s_bin op_sub v_sub (s_blt call_len v_len T.n_len (by rfl) (sa_cons (s_var 2) sa_nil)) s_int) (s_index (s_rev (s_var 2)) (s_blt (CallR.or (cr_max rfl) (cr_maxT rfl hr.units)) (OpV.or v_maxL v_maxT) T.n_max (by rfl) (sa_cons (s_var 2) sa_nil))))) (ss_one (ss_ret (s_call c_with_minute hr hg (L2N.takes_of rfl rfl rfl rfl) (sa_cons (s_var 0) (sa_cons (s_var 1) (sa_cons (s_var 3) (sa_cons (s_un un_neg v_neg s_int) sa_nil))))))))))
theorem sc_back : FnScope ["hall", "counter"] ["hall", "counter"] (defScope (kst 40)) := ⟨rfl, rfl, rfl, by decide +kernel, rfl, by decide +kernel, by decide +kernel⟩
theorem ok_back (T : Txt K mg) : FnM P w K mg base 7 "back" ["hall", "counter"] f_backx := by
  obtain ⟨f, fd, hm, F⟩ := T.f_back
  have c_moved_back := (ok_moved_back (P := P) (w := w) (base := base) T).mono (by decide : 4 ≤ 6)
  have c_need_both := (ok_need_both (P := P) (w := w) (base := base) T).mono (by decide : 6 ≤ 6)
  exact fnM_mk (k := 6) F sc_back hm (F.binds fun _ _ _ _ _ _ us hl => match us, hl with | [_, _], _ => rfl) fun cdv A out s H E hr hg => (ss_cons (ss_do (s_call c_need_both hr hg (L2N.takes_of rfl rfl rfl rfl) (sa_cons (s_var 0) (sa_cons (s_var 1) sa_nil)))) (ss_one (ss_ret (s_call c_moved_back hr hg (L2N.takes_of rfl rfl rfl rfl) (sa_cons (s_var 0) (sa_cons (s_var 1) sa_nil))))))
theorem sc_can_move : FnScope ["hall", "counter"] ["hall", "counter"] (defScope (kst 41)) := ⟨rfl, rfl, rfl, by decide +kernel, rfl, by decide +kernel, by decide +kernel⟩
theorem ok_can_move (T : Txt K mg) : FnM P w K mg base 7 "can_move" ["hall", "counter"] f_can_movex := by
  obtain ⟨f, fd, hm, F⟩ := T.f_can_move
  have c_can_move_by := (ok_can_move_by (P := P) (w := w) (base := base) T).mono (by decide : 3 ≤ 6)
  have c_need_both := (ok_need_both (P := P) (w := w) (base := base) T).mono (by decide : 6 ≤ 6)
  exact fnM_mk (k := 6) F sc_can_move hm (F.binds fun _ _ _ _ _ _ us hl => match us, hl with | [_, _], _ => rfl) fun cdv A out s H E hr hg => (ss_cons (ss_do (s_call c_need_both hr hg (L2N.takes_of rfl rfl rfl rfl) (sa_cons (s_var 0) (sa_cons (s_var 1) sa_nil)))) (ss_one (ss_ret (s_call c_can_move_by hr hg (L2N.takes_of rfl rfl rfl rfl) (sa_cons (s_var 0) (sa_cons (s_var 1) sa_nil))))))
theorem sc__law_said : FnScope ["door", "some", "rooms", "i", "many_moves", "kept_words", "e"] ["door", "some"] (defScope (kst 52)) := ⟨rfl, rfl, rfl, by decide +kernel, rfl, by decide +kernel, by decide +kernel⟩
theorem ok__law_said (T : Txt K mg) : FnM P w K mg base 8 "_law_said" ["door", "some"] f__law_said_e0aax := by
  obtain ⟨f, fd, hm, F⟩ := T.f__law_said
  have c__law_words := (ok__law_words (P := P) (w := w) (base := base) T).mono (by decide : 1 ≤ 7)
  have c_move := (ok_move (P := P) (w := w) (base := base) T).mono (by decide : 7 ≤ 7)
  have c_back := (ok_back (P := P) (w := w) (base := base) T).mono (by decide : 7 ≤ 7)
  have c_can_move := (ok_can_move (P := P) (w := w) (base := base) T).mono (by decide : 7 ≤ 7)
  have c_moved := (ok_moved (P := P) (w := w) (base := base) T).mono (by decide : 7 ≤ 7)
  exact fnM_mk (k := 7) F sc__law_said hm (F.binds fun _ _ _ _ _ _ us hl => match us, hl with | [_, _], _ => rfl) fun cdv A out s H E hr hg => (ss_cons (ss_unpD [false, true] (s_var 1) (sg_t3 rfl (sg_nm 2 sc__law_said.nd) (sg_nm 3 sc__law_said.nd) (sg_nm 4 sc__law_said.nd))) (ss_cons (ss_setD 5 [] sc__law_said.nd (s_lst sa_nil)) (ss_cons (ss_tryF c__law_words hr rfl rfl sc__law_said.nd (L2N.takes_of rfl rfl rfl rfl) T.hh.choose_spec.1 T.hh.choose_spec.2 T.xcl gx__law_words_ok fun W2 pn2 xe2 tk2 => (ss_one (ss_if (st_cmp op_lt v_cmpI (s_var 0) s_int) (ss_one (ss_do (s_callE (.cons c_move (.cons c_back (.cons c_can_move .nil))) hr hg tk2 (s_ix (s_lst (sa_cons (s_fnM c_move) (sa_cons (s_fnM c_back) (sa_cons (s_fnM c_can_move) sa_nil)))) (s_var 0)) (sa_cons (s_var 2) (sa_cons (s_var 3) sa_nil))))) (ss_one (ss_do (s_call c_moved hr hg tk2 (sa_cons (s_var 2) (sa_cons (s_var 3) (sa_cons (s_var 4) sa_nil))))))))) (ss_one (ss_retV 5)))))
theorem sc_law : FnScope ["script", "k", "bag", "rooms", "bad_hall", "bad_i", "bad_many", "door", "asks", "some", "word", "before", "i"] ["script"] (defScope (kst 53)) := ⟨rfl, rfl, rfl, by decide +kernel, rfl, by decide +kernel, by decide +kernel⟩
theorem ok_law {f : Addr} {fd : FuncData} (T : Txt K mg) (F : Fun K "law" "law" (kst 53) f fd) : FnG P w K mg base 9 f fd ["script"] (spF K mg f_law) := by
  have c__law_said := (ok__law_said (P := P) (w := w) (base := base) T).mono (by decide : 8 ≤ 8)
  have c__law_draw := (ok__law_draw (P := P) (w := w) (base := base) T).mono (by decide : 1 ≤ 8)
  have c__law_no_number := (ok__law_no_number (P := P) (w := w) (base := base) T).mono (by decide : 2 ≤ 8)
  have c__law_no_hall := (ok__law_no_hall (P := P) (w := w) (base := base) T).mono (by decide : 2 ≤ 8)
  have c__law_hall := (ok__law_hall (P := P) (w := w) (base := base) T).mono (by decide : 3 ≤ 8)
  have c__law_cell_at := (ok__law_cell_at (P := P) (w := w) (base := base) T).mono (by decide : 1 ≤ 8)
  have c__law_bag := (ok__law_bag (P := P) (w := w) (base := base) T).mono (by decide : 1 ≤ 8)
  exact fnG_mk (k := 8) F sc_law fun cdv A out s H E hr hg => (ss_cons (ss_forP (passes_of rfl) rfl (si_range1 T.n_range (sa_cons (s_blt (call_max2 rfl) v_max2 T.n_max (by rfl) (sa_cons s_int (sa_cons (s_blt (call_min2 rfl) v_min2 T.n_min (by rfl) (sa_cons s_int (sa_cons (s_blt call_len v_len T.n_len (by rfl) (sa_cons (s_var 0) sa_nil)) sa_nil))) sa_nil))) sa_nil)) (sg_nm 1 sc_law.nd) (ss_cons (ss_setD 2 [true, true] sc_law.nd (s_call c__law_bag hr hg (L2N.takes_of rfl rfl rfl rfl) (sa_cons (s_bin o_add v_add (s_call c__law_cell_at hr hg (L2N.takes_of rfl rfl rfl rfl) (sa_cons (s_var 0) (sa_cons (s_var 1) sa_nil))) s_int) sa_nil))) (ss_cons (ss_setD 3 [false, false, true] sc_law.nd (s_call c__law_hall hr hg (L2N.takes_of rfl rfl rfl rfl) (sa_cons (s_var 2) (sa_cons s_int (sa_cons s_int (sa_cons s_bl sa_nil)))))) (ss_cons (ss_setD 4 [false, false, true] sc_law.nd (s_call c__law_no_hall hr hg (L2N.takes_of rfl rfl rfl rfl) (sa_cons (s_var 2) sa_nil))) (ss_cons (ss_setD 5 [false, false, true, true] sc_law.nd (s_call c__law_no_number hr hg (L2N.takes_of rfl rfl rfl rfl) (sa_cons (s_var 2) (sa_cons (s_bin op_sub v_sub (s_blt call_len v_len T.n_len (by rfl) (sa_cons (s_var 3) sa_nil)) s_int) sa_nil)))) (ss_cons (ss_setD 6 [false, false, true] sc_law.nd (s_ix (s_lst (sa_cons s_non (sa_cons s_bl (sa_cons s_str (sa_cons (s_tup (sa_cons s_int sa_nil)) (sa_cons (s_lst (sa_cons s_int sa_nil)) (sa_cons s_bl sa_nil))))))) (s_call c__law_draw hr hg (L2N.takes_of rfl rfl rfl rfl) (sa_cons (s_var 2) (sa_cons s_int sa_nil))))) (ss_one (ss_forP (passes_of rfl) rfl (si_range1 T.n_range (sa_cons s_int sa_nil)) (sg_nm 7 sc_law.nd) (ss_cons (ss_setT 8 [false, false, false, true, true, true, true] sc_law.nd (s_lst (sa_cons (s_tup (sa_cons (s_tup (sa_cons (s_var 4) (sa_cons (s_var 5) (sa_cons (s_var 6) sa_nil)))) (sa_cons s_str sa_nil))) (sa_cons (s_tup (sa_cons (s_tup (sa_cons (s_var 3) (sa_cons (s_var 5) (sa_cons (s_var 6) sa_nil)))) (sa_cons s_str sa_nil))) sa_nil)))) (ss_cons (ss_appD 8 [false, false, false, true] (s_tup (sa_cons (s_tup (sa_cons (s_var 3) (sa_cons (s_bin op_sub v_sub (s_blt call_len v_len T.n_len (by rfl) (sa_cons (s_var 3) sa_nil)) s_int) (sa_cons s_int sa_nil)))) (sa_cons s_str sa_nil)))) (ss_cons (ss_if (SW.st (sw_and (st_cmp (op_eqD hr.units) v_eq (s_var 7) s_int) (sw_and1 (st_cmp op_gt v_cmpI (s_blt call_len v_len T.n_len (by rfl) (sa_cons (s_var 3) sa_nil)) s_int)))) (ss_one (ss_appD 8 [false, false, false, true, false, false, true] (s_tup (sa_cons (s_tup (sa_cons (s_var 3) (sa_cons s_int (sa_cons (s_var 6) sa_nil)))) (sa_cons s_str sa_nil))))) ss_nil) (ss_cons (ss_for [false, false, false, false, false, false, false, false, true] (passes_of rfl) rfl (si_seq (s_var 8)) (sg_t2 rfl (sg_nm 9 sc_law.nd) (sg_nm 10 sc_law.nd)) (ss_cons (ss_setD 11 [false, false, false, false, false, false, false, false, false, true] sc_law.nd (s_blt (cr_reprZ hr.units hg) v_reprZ T.n_repr (by rfl) (sa_cons (s_var 9) sa_nil))) (ss_one (ss_if (SW.st (sw_or (st_cmp (op_neD hr.units) v_ne (s_call c__law_said hr hg (L2N.takes_of rfl rfl rfl rfl) (sa_cons (s_var 7) (sa_cons (s_var 9) sa_nil))) (s_lst (sa_cons (s_var 10) (sa_cons s_str sa_nil)))) (sw_or1 (st_cmp (op_neD hr.units) v_ne (s_blt (cr_reprZ hr.units hg) v_reprZ T.n_repr (by rfl) (sa_cons (s_var 9) sa_nil)) (s_var 11))))) (ss_one (ss_ret s_bl)) ss_nil)))) (ss_one (ss_forP (passes_of rfl) rfl (si_range1 T.n_range (sa_cons (s_bin op_sub v_sub (s_blt call_len v_len T.n_len (by rfl) (sa_cons (s_var 3) sa_nil)) s_int) sa_nil)) (sg_nm 12 sc_law.nd) (ss_one (ss_if (st_cmp (op_neD hr.units) v_ne (s_bin o_add v_add (s_call c__law_said hr hg (L2N.takes_of rfl rfl rfl rfl) (sa_cons (s_var 7) (sa_cons (s_tup (sa_cons (s_var 3) (sa_cons (s_var 12) (sa_cons (s_bin o_pow v_pow s_int s_int) sa_nil)))) sa_nil))) (s_call c__law_said hr hg (L2N.takes_of rfl rfl rfl rfl) (sa_cons (s_var 7) (sa_cons (s_tup (sa_cons (s_var 3) (sa_cons (s_var 12) (sa_cons (s_un un_neg v_neg (s_bin o_pow v_pow s_int s_int)) sa_nil)))) sa_nil)))) (s_lst sa_nil)) (ss_one (ss_ret s_bl)) ss_nil)))))))))))))))) (ss_one (ss_ret s_bl)))
end
end Zm
set_option linter.all false
set_option autoImplicit false
set_option maxRecDepth 100000
/-! TL: programs over plain types, and the machines that keep them. -/
namespace Zm
open PySem
mutual
theorem fz_fz : ∀ d : D, fz (fz d) = fz d
  | .tup xs => by simp [fzs_fzs xs]
  | .lst _ xs => by simp [fzs_fzs xs]
  | .dic _ _ _ _ => rfl
  | .non => rfl | .bl _ => rfl | .int _ => rfl | .str _ => rfl | .box _ => rfl | .fn _ => rfl | .ty _ => rfl | .exc _ _ => rfl | .ro _ => rfl
theorem fzs_fzs : ∀ xs : List D, fzs (fzs xs) = fzs xs
  | [] => rfl
  | x :: xs => by simp [fz_fz x, fzs_fzs xs]
end
mutual
theorem plain_fz : ∀ d : D, plain d = true → fz d = d
  | .tup xs, h => by simp only [plain] at h; simp [plains_fz xs h]
  | .lst _ xs, h => by simp at h
  | .dic _ _ _ _, h => by simp at h
  | .non, _ => rfl | .bl _, _ => rfl | .int _, _ => rfl | .str _, _ => rfl | .box _, _ => rfl | .fn _, _ => rfl | .ty _, _ => rfl | .exc _ _, _ => rfl | .ro _, _ => rfl
theorem plains_fz : ∀ xs : List D, plains xs = true → fzs xs = xs
  | [], _ => rfl
  | x :: xs, h => by simp only [plains, Bool.and_eq_true] at h; simp [plain_fz x h.1, plains_fz xs h.2]
end
mutual
theorem plain_noF : ∀ d : D, plain d = true → noF d = true
  | .tup xs, h => by simp only [plain] at h; simp [plains_noF xs h]
  | .lst _ xs, h => by simp at h
  | .dic _ _ _ _, h => by simp at h
  | .non, _ => rfl | .bl _, _ => rfl | .int _, _ => rfl | .str _, _ => rfl | .box _, _ => rfl | .fn _, _ => rfl | .ty _, _ => rfl | .exc _ _, _ => rfl | .ro _, _ => rfl
theorem plains_noF : ∀ xs : List D, plains xs = true → noFs xs = true
  | [], _ => rfl
  | x :: xs, h => by simp only [plains, Bool.and_eq_true] at h; simp [plain_noF x h.1, plains_noF xs h.2]
end
mutual
theorem fz_plain : ∀ d : D, plain (fz d) = true → plain d = true
  | .tup xs, h => by simp only [fz, plain] at h; simp [fzs_plains xs h]
  | .lst _ xs, h => by simp at h
  | .dic _ _ _ _, h => by simp at h
  | .non, _ => rfl | .bl _, _ => rfl | .int _, _ => rfl | .str _, _ => rfl | .box _, _ => rfl | .fn _, _ => rfl | .ty _, _ => rfl | .exc _ _, _ => rfl | .ro _, _ => rfl
theorem fzs_plains : ∀ xs : List D, plains (fzs xs) = true → plains xs = true
  | [], _ => rfl
  | x :: xs, h => by simp only [fzs, plains, Bool.and_eq_true] at h; simp [fz_plain x h.1, fzs_plains xs h.2]
end
mutual
theorem pd_fz : ∀ d : D, pd (fz d) = pd d
  | .tup xs => by simp [fz, pd, pds_fz xs]
  | .lst _ xs => by simp [fz, pd, pds_fz xs]
  | .dic _ _ _ _ => rfl
  | .non => rfl | .bl _ => rfl | .int _ => rfl | .str _ => rfl | .box _ => rfl | .fn _ => rfl | .ty _ => rfl | .exc _ _ => rfl | .ro _ => rfl
theorem pds_fz : ∀ xs : List D, pds (fzs xs) = pds xs
  | [] => rfl
  | x :: xs => by simp [fzs, pds, pd_fz x, pds_fz xs]
end
/-! ### what stands for what -/
abbrev G (α : Type) := Sto → R α
def pr {α : Type} (x : α) : G α := fun s => .ok x s
def bd {α β : Type} (t : G α) (k : α → G β) : G β := fun s => (t s).bind fun a s' => k a s'
def badG {α : Type} : G α := fun _ => .bad
@[simp] theorem pr_ap {α : Type} (x : α) (s : Sto) : pr x s = .ok x s := rfl
theorem bd_ap {α β : Type} (t : G α) (k : α → G β) (s : Sto) : bd t k s = (t s).bind fun a s' => k a s' := rfl
@[simp] theorem bd_ok {α β : Type} {t : G α} {k : α → G β} {s s' : Sto} {a : α} (h : t s = .ok a s') : bd t k s = k a s' := by rw [bd_ap, h]; rfl
theorem bd_ex {α β : Type} {t : G α} {k : α → G β} {s s' : Sto} {x : Xc} (h : t s = .ex x s') : bd t k s = .ex x s' := by rw [bd_ap, h]; rfl
structure Ec (α : Type) where
  f : α → D
  h : ∀ x, fz (f x) = f x
inductive Kd where
  | any | top | own | fro | pl
/-- d stands for x: .top an owned list, .own nothing frozen within, .fro all frozen, .pl no list at all -/
def Rp {α : Type} (k : Kd) (e : Ec α) (x : α) (d : D) : Prop := fz d = e.f x ∧ match k with
  | .any => True
  | .top => ∃ ds, d = .lst true ds
  | .own => noF d = true
  | .fro => d = e.f x
  | .pl => plain d = true
class Pn {α : Type} (e : Ec α) : Prop where
  p : ∀ x, plain (e.f x) = true
section
variable {α β γ : Type} {k k' : Kd} {e : Ec α} {x : α} {d : D}
theorem Rp.any (h : Rp k e x d) : Rp .any e x d := ⟨h.1, trivial⟩
theorem Rp.fz (h : Rp k e x d) : Rp .fro e x (fz d) := ⟨by rw [fz_fz]; exact h.1, h.1⟩
theorem Rp.plain [Pn e] (h : Rp k e x d) : Rp .pl e x d := ⟨h.1, fz_plain _ (by rw [h.1]; exact Pn.p x)⟩
theorem Rp.plE (h : Rp .pl e x d) : d = e.f x := by rw [← h.1]; exact (plain_fz _ h.2).symm
theorem Rp.plO (h : Rp .pl e x d) : Rp .own e x d := ⟨h.1, plain_noF _ h.2⟩
theorem Rp.self (e : Ec α) (x : α) : Rp .fro e x (e.f x) := ⟨e.h x, rfl⟩
theorem Rp.selfP (e : Ec α) [Pn e] (x : α) : Rp .pl e x (e.f x) := (Rp.self e x).plain
end
def eI : Ec Int := ⟨.int, fun _ => rfl⟩
def eB : Ec Bool := ⟨.bl, fun _ => rfl⟩
def eN : Ec Unit := ⟨fun _ => .non, fun _ => rfl⟩
def eS : Ec Str := ⟨.str, fun _ => rfl⟩
def eBx : Ec Nat := ⟨.box, fun _ => rfl⟩
def eRo : Ec (List Int) := ⟨.ro, fun _ => rfl⟩
def eTy : Ec String := ⟨.ty, fun _ => rfl⟩
def eX : Ec D := ⟨fz, fz_fz⟩
theorem fzs_ec {α : Type} (e : Ec α) (xs : List α) : fzs (xs.map e.f) = xs.map e.f := by rw [fzs_eq, List.map_map]; exact List.map_congr_left fun x _ => e.h x
def eL {α : Type} (e : Ec α) : Ec (List α) := ⟨fun xs => .lst false (xs.map e.f), fun xs => by simp [fzs_ec]⟩
def eT {α : Type} (e : Ec α) : Ec (List α) := ⟨fun xs => .tup (xs.map e.f), fun xs => by simp [fzs_ec]⟩
def eP {α β : Type} (a : Ec α) (b : Ec β) : Ec (α × β) := ⟨fun p => .tup [a.f p.1, b.f p.2], fun p => by simp [a.h, b.h]⟩
def eP3 {α β γ : Type} (a : Ec α) (b : Ec β) (c : Ec γ) : Ec (α × β × γ) := ⟨fun p => .tup [a.f p.1, b.f p.2.1, c.f p.2.2], fun p => by simp [a.h, b.h, c.h]⟩
def eO {α : Type} (e : Ec α) : Ec (Option α) := ⟨fun o => match o with
  | none => .non
  | some x => e.f x, fun o => by cases o <;> simp [e.h]⟩
instance : Pn eI := ⟨fun _ => rfl⟩
instance : Pn eB := ⟨fun _ => rfl⟩
instance : Pn eN := ⟨fun _ => rfl⟩
instance : Pn eS := ⟨fun _ => rfl⟩
instance : Pn eBx := ⟨fun _ => rfl⟩
instance : Pn eRo := ⟨fun _ => rfl⟩
instance : Pn eTy := ⟨fun _ => rfl⟩
instance {α : Type} (e : Ec α) [Pn e] : Pn (eT e) := ⟨fun xs => by
  show plains (xs.map e.f) = true
  rw [plains_iff]; intro d hd; obtain ⟨x, _, rfl⟩ := List.mem_map.mp hd; exact Pn.p x⟩
instance {α β : Type} (a : Ec α) (b : Ec β) [Pn a] [Pn b] : Pn (eP a b) := ⟨fun p => by show plains [a.f p.1, b.f p.2] = true; simp [Pn.p]⟩
instance {α β γ : Type} (a : Ec α) (b : Ec β) (c : Ec γ) [Pn a] [Pn b] [Pn c] : Pn (eP3 a b c) := ⟨fun p => by show plains [a.f p.1, b.f p.2.1, c.f p.2.2] = true; simp [Pn.p]⟩
instance {α : Type} (e : Ec α) [Pn e] : Pn (eO e) := ⟨fun o => by cases o <;> simp [eO, Pn.p]⟩
/-! ### what such a tree looks like -/
section
variable {α β : Type} {k : Kd} {d : D}
theorem Rp.int {x : Int} (h : Rp k eI x d) : d = .int x := by have := h.1; cases d <;> simp_all [eI]
theorem Rp.bl {x : Bool} (h : Rp k eB x d) : d = .bl x := by have := h.1; cases d <;> simp_all [eB]
theorem Rp.str {x : Str} (h : Rp k eS x d) : d = .str x := by have := h.1; cases d <;> simp_all [eS]
theorem Rp.non {x : Unit} (h : Rp k eN x d) : d = .non := by have := h.1; cases d <;> simp_all [eN]
theorem Rp.box {x : Nat} (h : Rp k eBx x d) : d = .box x := by have := h.1; cases d <;> simp_all [eBx]
theorem Rp.ro {x : List Int} (h : Rp k eRo x d) : d = .ro x := by have := h.1; cases d <;> simp_all [eRo]
theorem Rp.ty {x : String} (h : Rp k eTy x d) : d = .ty x := by have := h.1; cases d <;> simp_all [eTy]
theorem Rp.lst {e : Ec α} {xs : List α} (h : Rp k (eL e) xs d) : ∃ o ds, d = .lst o ds ∧ fzs ds = xs.map e.f := by
  have := h.1
  cases d with
  | lst o ds => exact ⟨o, ds, rfl, by simpa [eL] using this⟩
  | _ => simp_all [eL]
theorem Rp.tup {e : Ec α} {xs : List α} (h : Rp k (eT e) xs d) : ∃ ds, d = .tup ds ∧ fzs ds = xs.map e.f := by
  have := h.1
  cases d with
  | tup ds => exact ⟨ds, rfl, by simpa [eT] using this⟩
  | _ => simp_all [eT]
theorem Rp.lstT {e : Ec α} {xs : List α} (h : Rp .top (eL e) xs d) : ∃ ds, d = .lst true ds ∧ fzs ds = xs.map e.f := by
  obtain ⟨ds, rfl⟩ := h.2
  exact ⟨ds, rfl, by have := h.1; simpa [eL] using this⟩
theorem Rp.lstO {e : Ec α} {xs : List α} (h : Rp .own (eL e) xs d) : ∃ ds, d = .lst true ds ∧ fzs ds = xs.map e.f ∧ noFs ds = true := by
  obtain ⟨o, ds, rfl, q⟩ := h.lst
  have := h.2
  simp only [noF, Bool.and_eq_true] at this
  obtain ⟨rfl, h2⟩ := this
  exact ⟨ds, rfl, q, h2⟩
theorem Rp.ownT {e : Ec α} {xs : List α} (h : Rp .own (eL e) xs d) : Rp .top (eL e) xs d := by
  obtain ⟨ds, rfl, _, _⟩ := h.lstO
  exact ⟨h.1, ds, rfl⟩
theorem Rp.pair {a : Ec α} {b : Ec β} {p : α × β} (h : Rp k (eP a b) p d) : ∃ x y, d = .tup [x, y] ∧ Zm.fz x = a.f p.1 ∧ Zm.fz y = b.f p.2 := by
  have := h.1
  cases d with
  | tup ds =>
    simp only [eP, fz, D.tup.injEq] at this
    match ds, this with
    | [x, y], this => simp at this; exact ⟨x, y, rfl, this⟩
    | [], this => simp at this
    | [_], this => simp at this
    | _ :: _ :: _ :: _, this => simp at this
  | _ => simp_all [eP]
theorem rp_top {e : Ec α} {xs : List α} {ds : List D} (h : fzs ds = xs.map e.f) : Rp .top (eL e) xs (.lst true ds) := ⟨by simp [eL, h], ds, rfl⟩
theorem rp_own {e : Ec α} {xs : List α} {ds : List D} (h : fzs ds = xs.map e.f) (hn : noFs ds = true) : Rp .own (eL e) xs (.lst true ds) := ⟨by simp [eL, h], by simp [hn]⟩
theorem rp_tup {e : Ec α} {xs : List α} {ds : List D} (h : fzs ds = xs.map e.f) : Rp .any (eT e) xs (.tup ds) := ⟨by simp [eT, h], trivial⟩
theorem noFs_pn {e : Ec α} [Pn e] {xs : List α} {ds : List D} (h : fzs ds = xs.map e.f) : noFs ds = true := plains_noF _ (fzs_plains _ (by
  rw [h, plains_iff]; intro d hd; obtain ⟨x, _, rfl⟩ := List.mem_map.mp hd; exact Pn.p x))
theorem rp_len {e : Ec α} {xs : List α} {ds : List D} (h : fzs ds = xs.map e.f) : ds.length = xs.length := by
  have := congrArg List.length h
  simpa [fzs_eq] using this
end
/-! ### patterns of slots -/
inductive Pt : Type 1 where
  | no
  | vr {α : Type} (k : Kd) (e : Ec α) (x : α)
def PtM : Pt → Option D → Prop
  | .no, _ => True
  | .vr k e x, o => ∃ d, o = some d ∧ Rp k e x d
def Mt : List Pt → Env → Prop
  | [], [] => True
  | p :: π, o :: σ => PtM p o ∧ Mt π σ
  | _, _ => False
def Kd.dg : Kd → Kd
  | .pl => .pl
  | _ => .any
def Kd.fr : Kd → Kd
  | .pl => .pl
  | _ => .fro
def Pt.dg : Pt → Pt
  | .no => .no
  | .vr k e x => .vr k.dg e x
def Pt.fr : Pt → Pt
  | .no => .no
  | .vr k e x => .vr k.fr e x
/-- the mask's slots alone; its slots perhaps frozen -/
def restrP : List Bool → List Pt → List Pt
  | [], π => π.map fun _ => .no
  | _, [] => []
  | b :: bs, p :: π => (if b = true then p else .no) :: restrP bs π
def frzP : List Bool → List Pt → List Pt
  | [], π => π
  | _, [] => []
  | b :: bs, p :: π => (if b = true then p.dg else p) :: frzP bs π
def wipeP (π : List Pt) : List Nat → List Pt
  | [] => π
  | v :: vs => (wipeP π vs).set v .no
def fzP (π : List Pt) : List Pt := π.map Pt.fr
section
variable {α : Type} {k : Kd} {e : Ec α} {x : α} {π π' : List Pt} {σ : Env} {d : D}
theorem Mt.len : ∀ {π : List Pt} {σ : Env}, Mt π σ → σ.length = π.length
  | [], [], _ => rfl
  | _ :: _, _ :: _, h => congrArg (· + 1) (Mt.len h.2)
  | [], _ :: _, h => h.elim
  | _ :: _, [], h => h.elim
theorem Mt.get : ∀ {π : List Pt} {σ : Env} {i : Nat}, Mt π σ → π[i]? = some (.vr k e x) → ∃ d, σ[i]? = some (some d) ∧ Rp k e x d
  | [], [], i, _, h => by simp at h
  | p :: π, o :: σ, 0, m, h => by
    simp at h; subst h
    obtain ⟨d, rfl, r⟩ := m.1
    exact ⟨d, rfl, r⟩
  | p :: π, o :: σ, i + 1, m, h => by
    have := Mt.get (i := i) m.2 (by simpa using h)
    simpa using this
  | [], _ :: _, _, h, _ => h.elim
  | _ :: _, [], _, h, _ => h.elim
theorem Mt.set : ∀ {π : List Pt} {σ : Env} (i : Nat) {p : Pt} {o : Option D}, Mt π σ → PtM p o → Mt (π.set i p) (σ.set i o)
  | [], [], i, _, _, _, _ => trivial
  | _ :: _, _ :: _, 0, _, _, m, h => ⟨h, m.2⟩
  | _ :: _, _ :: _, i + 1, _, _, m, h => ⟨m.1, Mt.set i m.2 h⟩
  | [], _ :: _, _, _, _, h, _ => h.elim
  | _ :: _, [], _, _, _, h, _ => h.elim
theorem ptm_dg : ∀ {p : Pt} {o : Option D}, PtM p o → PtM p.dg o
  | .no, _, _ => trivial
  | .vr .pl _ _, _, h => h
  | .vr .any _ _, _, h => h
  | .vr .top _ _, _, ⟨d, e, r⟩ => ⟨d, e, r.any⟩
  | .vr .own _ _, _, ⟨d, e, r⟩ => ⟨d, e, r.any⟩
  | .vr .fro _ _, _, ⟨d, e, r⟩ => ⟨d, e, r.any⟩
theorem rp_fr {α : Type} {e : Ec α} {x : α} {d : D} : ∀ {k : Kd}, Rp k e x d → Rp k.fr e x (fz d)
  | .pl, h => by rw [plain_fz _ h.2]; exact h
  | .any, h => h.fz
  | .top, h => h.fz
  | .own, h => h.fz
  | .fro, h => h.fz
theorem rp_dgfz {α : Type} {e : Ec α} {x : α} {d : D} : ∀ {k : Kd}, Rp k e x d → Rp k.dg e x (fz d)
  | .pl, h => by rw [plain_fz _ h.2]; exact h
  | .any, h => h.fz.any
  | .top, h => h.fz.any
  | .own, h => h.fz.any
  | .fro, h => h.fz.any
theorem ptm_fz : ∀ {p : Pt} {o : Option D}, PtM p o → PtM p.fr (o.map fz)
  | .no, _, _ => trivial
  | .vr k _ _, _, ⟨d, rfl, r⟩ => ⟨fz d, rfl, rp_fr r⟩
theorem ptm_dgfz : ∀ {p : Pt} {o : Option D}, PtM p o → PtM p.dg (o.map fz)
  | .no, _, _ => trivial
  | .vr k _ _, _, ⟨d, rfl, r⟩ => ⟨fz d, rfl, rp_dgfz r⟩
theorem Mt.nos : ∀ {π : List Pt} {σ : Env}, Mt π σ → Mt (π.map fun _ => .no) (σ.map fun _ => none)
  | [], [], _ => trivial
  | _ :: _, _ :: _, h => ⟨trivial, Mt.nos h.2⟩
  | [], _ :: _, h => h.elim
  | _ :: _, [], h => h.elim
theorem Mt.nos' : ∀ {π : List Pt} {σ : Env}, Mt π σ → Mt (π.map fun _ => .no) σ
  | [], [], _ => trivial
  | _ :: _, _ :: _, h => ⟨trivial, Mt.nos' h.2⟩
  | [], _ :: _, h => h.elim
  | _ :: _, [], h => h.elim
/-- under the mask: in the slots as they are, and in the mask's alone -/
theorem Mt.restr : ∀ {bs : List Bool} {π : List Pt} {σ : Env}, Mt π σ → Mt (restrP bs π) (restr bs σ)
  | [], _, _, h => h.nos
  | b :: bs, [], [], _ => trivial
  | true :: bs, p :: π, o :: σ, h => ⟨h.1, Mt.restr h.2⟩
  | false :: bs, p :: π, o :: σ, h => ⟨trivial, Mt.restr h.2⟩
  | _ :: _, [], _ :: _, h => h.elim
  | _ :: _, _ :: _, [], h => h.elim
theorem Mt.restr' : ∀ {bs : List Bool} {π : List Pt} {σ : Env}, Mt π σ → Mt (restrP bs π) σ
  | [], _, _, h => h.nos'
  | b :: bs, [], [], _ => trivial
  | true :: bs, p :: π, o :: σ, h => ⟨h.1, Mt.restr' h.2⟩
  | false :: bs, p :: π, o :: σ, h => ⟨trivial, Mt.restr' h.2⟩
  | _ :: _, [], _ :: _, h => h.elim
  | _ :: _, _ :: _, [], h => h.elim
theorem Mt.frz : ∀ {bs : List Bool} {π : List Pt} {σ : Env}, Mt π σ → Mt (frzP bs π) (frzE bs σ)
  | [], _, _, h => h
  | b :: bs, [], [], _ => trivial
  | true :: bs, p :: π, o :: σ, h => ⟨ptm_dgfz h.1, Mt.frz h.2⟩
  | false :: bs, p :: π, o :: σ, h => ⟨h.1, Mt.frz h.2⟩
  | _ :: _, [], _ :: _, h => h.elim
  | _ :: _, _ :: _, [], h => h.elim
theorem Mt.frz' : ∀ {bs : List Bool} {π : List Pt} {σ : Env}, Mt π σ → Mt (frzP bs π) σ
  | [], _, _, h => h
  | b :: bs, [], [], _ => trivial
  | true :: bs, p :: π, o :: σ, h => ⟨ptm_dg h.1, Mt.frz' h.2⟩
  | false :: bs, p :: π, o :: σ, h => ⟨h.1, Mt.frz' h.2⟩
  | _ :: _, [], _ :: _, h => h.elim
  | _ :: _, _ :: _, [], h => h.elim
theorem Mt.fzE : ∀ {π : List Pt} {σ : Env}, Mt π σ → Mt (fzP π) (fzE σ)
  | [], [], _ => trivial
  | _ :: _, _ :: _, h => ⟨ptm_fz h.1, Mt.fzE h.2⟩
  | [], _ :: _, h => h.elim
  | _ :: _, [], h => h.elim
theorem Mt.wipe (h : Mt π σ) : ∀ vs : List Nat, Mt (wipeP π vs) (wipeE σ vs)
  | [] => h
  | v :: vs => (Mt.wipe h vs).set v (p := .no) trivial
end
/-- of less -/
def Wk (π π' : List Pt) : Prop := ∀ σ, Mt π σ → Mt π' σ
section
variable {α : Type} {k : Kd} {e : Ec α} {x : α} {p : Pt} {π π' : List Pt}
theorem wk_nil : Wk [] [] := fun _ h => h
theorem wk_no (h : Wk π π') : Wk (p :: π) (.no :: π') := fun σ m => match σ, m with
  | _ :: σ, m => ⟨trivial, h σ m.2⟩
  | [], m => m.elim
theorem wk_eq (h : Wk π π') : Wk (p :: π) (p :: π') := fun σ m => match σ, m with
  | _ :: σ, m => ⟨m.1, h σ m.2⟩
  | [], m => m.elim
end
/-! ### expressions -/
def Rf {α : Type} (k : Kd) (e : Ec α) : R α → R D → Prop
  | .ok x s, r => ∃ d, r = .ok d s ∧ Rp k e x d
  | .ex x s, r => r = .ex x s
  | .bad, _ => True
def TE {α : Type} (π : List Pt) (m : M) (k : Kd) (e : Ec α) (t : G α) : Prop := ∀ σ s, Mt π σ → Rf k e (t s) (m σ s)
def TP {α : Type} (π : List Pt) (m : M) (k : Kd) (e : Ec α) (x : α) : Prop := ∀ σ s, Mt π σ → ∃ d, m σ s = .ok d s ∧ Rp k e x d
def RfB : R Bool → R Bool → Prop
  | .bad, _ => True
  | a, b => b = a
def TC (π : List Pt) (t : T) (g : G Bool) : Prop := ∀ σ s, Mt π σ → RfB (g s) (t σ s)
def TCp (π : List Pt) (t : T) (b : Bool) : Prop := ∀ σ s, Mt π σ → t σ s = .ok b s
def TA {α : Type} (π : List Pt) (ms : List M) (K : List D → Sto → R D) (k : Kd) (e : Ec α) (t : G α) : Prop := ∀ σ s, Mt π σ → Rf k e (t s) ((mArgs ms σ s).bind K)
section
variable {α β γ : Type} {π : List Pt} {m ma mb mc : M} {ms : List M} {k ka kb kc : Kd} {e : Ec α} {ea : Ec β} {eb : Ec γ} {x : α} {t : G α} {K : List D → Sto → R D} {c : T}
theorem Rf.bind {tb : G β} {r : R D} {f : β → G α} {h : D → Sto → R D} {s : Sto} (a : Rf ka ea (tb s) r) (b : ∀ y d s, Rp ka ea y d → Rf k e (f y s) (h d s)) : Rf k e (bd tb f s) (r.bind h) := by
  unfold bd
  cases q : tb s with
  | ok y s1 =>
    rw [q] at a
    obtain ⟨d, rfl, r⟩ := a
    exact b y d s1 r
  | ex z s1 => rw [q] at a; cases a; exact rfl
  | bad => trivial
theorem TP.te (h : TP π m k e x) : TE π m k e (pr x) := fun σ s M => h σ s M
theorem te_var (i : Nat) {k : Kd} {π : List Pt} {e : Ec α} {x : α} (h : π[i]? = some (.vr k e x) := by rfl) : TP π (mVar i) .fro e x := fun σ s M => by
  obtain ⟨d, q, r⟩ := M.get h
  exact ⟨fz d, by simp [q], r.fz⟩
theorem te_varP (i : Nat) {π : List Pt} {e : Ec α} {x : α} (h : π[i]? = some (.vr .pl e x) := by rfl) : TP π (mVar i) .pl e x := fun σ s M => by
  obtain ⟨d, q, r⟩ := M.get h
  exact ⟨fz d, by simp [q], rp_fr r⟩
theorem te_int {i : Int} : TP π (mC (.int i)) .pl eI i := fun σ s M => ⟨_, rfl, rfl, rfl⟩
theorem te_bl {i : Bool} : TP π (mC (.bl i)) .pl eB i := fun σ s M => ⟨_, rfl, rfl, rfl⟩
theorem te_str {i : Str} : TP π (mC (.str i)) .pl eS i := fun σ s M => ⟨_, rfl, rfl, rfl⟩
theorem te_none : TP π (mC .non) .fro (eO e) none := fun σ s M => ⟨_, rfl, rfl, rfl⟩
theorem TP.any (h : TP π m k e x) : TP π m .any e x := fun σ s M => let ⟨d, q, r⟩ := h σ s M; ⟨d, q, r.any⟩
theorem TP.plain [Pn e] (h : TP π m k e x) : TP π m .pl e x := fun σ s M => let ⟨d, q, r⟩ := h σ s M; ⟨d, q, r.plain⟩
theorem TP.own (h : TP π m .pl e x) : TP π m .own e x := fun σ s M => let ⟨d, q, r⟩ := h σ s M; ⟨d, q, r.plO⟩
theorem Rf.mono {k' : Kd} {a : R α} {r : R D} (h : Rf k e a r) (q : ∀ x d, Rp k e x d → Rp k' e x d) : Rf k' e a r := by
  cases a with
  | ok x s => obtain ⟨d, h1, h2⟩ := h; exact ⟨d, h1, q _ _ h2⟩
  | ex x s => exact h
  | bad => trivial
theorem TE.any (h : TE π m k e t) : TE π m .any e t := fun σ s M => (h σ s M).mono fun _ _ r => r.any
theorem TE.plain [Pn e] (h : TE π m k e t) : TE π m .pl e t := fun σ s M => (h σ s M).mono fun _ _ r => r.plain
theorem TE.own (h : TE π m .pl e t) : TE π m .own e t := fun σ s M => (h σ s M).mono fun _ _ r => r.plO
theorem TE.top {e : Ec β} {t : G (List β)} (h : TE π m .own (eL e) t) : TE π m .top (eL e) t := fun σ s M => (h σ s M).mono fun _ _ r => r.ownT
/-- something that may be none -/
theorem rp_some {d : D} (h : Rp k e x d) : Rp .any (eO e) (some x) d := ⟨h.1, trivial⟩
theorem TP.some (h : TP π m k e x) : TP π m .any (eO e) (some x) := fun σ s M => let ⟨d, q, r⟩ := h σ s M; ⟨d, q, rp_some r⟩
theorem TE.some (h : TE π m k e t) : TE π m .any (eO e) (bd t fun x => pr (some x)) := fun σ s M => by
  have := h σ s M
  unfold bd
  cases q : t s with
  | ok x s1 => rw [q] at this; obtain ⟨d, h1, h2⟩ := this; exact ⟨d, h1, rp_some h2⟩
  | ex x s1 => rw [q] at this; exact this
  | bad => trivial
/-- data as a tree -/
theorem rp_x {d : D} (h : Rp k e x d) : Rp .any eX (e.f x) d := ⟨by show _ = fz (e.f x); rw [e.h]; exact h.1, trivial⟩
theorem TP.asX (h : TP π m k e x) : TP π m .any eX (e.f x) := fun σ s M => let ⟨d, q, r⟩ := h σ s M; ⟨d, q, rp_x r⟩
theorem TE.asX (h : TE π m k e t) : TE π m .any eX (bd t fun x => pr (e.f x)) := fun σ s M => by
  have := h σ s M
  unfold bd
  cases q : t s with
  | ok x s1 => rw [q] at this; obtain ⟨d, h1, h2⟩ := this; exact ⟨d, h1, rp_x h2⟩
  | ex x s1 => rw [q] at this; exact this
  | bad => trivial
/-! ### arguments -/
theorem ta_nil (h : ∀ s, Rf k e (t s) (K [] s)) : TA π [] K k e t := fun σ s M => h s
theorem ta_P {y : β} (h : TP π m ka ea y) (q : ∀ d, Rp ka ea y d → TA π ms (fun ds => K (d :: ds)) k e t) : TA π (m :: ms) K k e t := fun σ s M => by
  obtain ⟨d, h1, h2⟩ := h σ s M
  have := q d h2 σ s M
  simp only [mArgs, h1, R.bind_ok]
  cases z : mArgs ms σ s with
  | ok ds s1 => rw [z] at this; exact this
  | ex x s1 => rw [z] at this; exact this
  | bad => rw [z] at this; exact this
theorem ta_E {tb : G β} {f : β → G α} (h : TE π m ka ea tb) (q : ∀ y d, Rp ka ea y d → TA π ms (fun ds => K (d :: ds)) k e (f y)) : TA π (m :: ms) K k e (bd tb f) := fun σ s M => by
  have h := h σ s M
  unfold bd
  cases z : tb s with
  | ok y s1 =>
    rw [z] at h
    obtain ⟨d, h1, h2⟩ := h
    have := q y d h2 σ s1 M
    simp only [mArgs, h1, R.bind_ok]
    show Rf k e (f y s1) _
    cases z : mArgs ms σ s1 with
    | ok ds s1 => rw [z] at this; exact this
    | ex x s1 => rw [z] at this; exact this
    | bad => rw [z] at this; exact this
  | ex x s1 =>
    rw [z] at h
    have h : m σ s = .ex x s1 := h
    simp only [mArgs, h, R.bind_ex]; exact rfl
  | bad => trivial
theorem te_op {g : Sto → List D → Option D} (h : TA π ms (fun ds s => R.of (g s ds) s) k e t) : TE π (mOp g ms) k e t := fun σ s M => h σ s M
theorem te_call {f : Fn} (h : TA π ms f k e t) : TE π (mCall f ms) k e t := fun σ s M => h σ s M
/-- pure ones: by what the machine's operation gives -/
def OkP {α : Type} (g : Sto → List D → Option D) (ds : List D) (k : Kd) (e : Ec α) (x : α) : Prop := ∀ s, ∃ d, g s ds = some d ∧ Rp k e x d
theorem ok_p {g : Sto → List D → Option D} {ds : List D} (h : OkP g ds k e x) : ∀ s, Rf k e (pr x s) (R.of (g s ds) s) := fun s => by
  obtain ⟨d, e1, r⟩ := h s
  exact ⟨d, by rw [e1]; rfl, r⟩
end
end Zm
set_option linter.all false
set_option autoImplicit false
set_option maxRecDepth 100000
/-! TL2: tests, what is walked, lists made of lists, statements, functions. -/
namespace Zm
open PySem
/-! ### tests and what hangs on them -/
def orG (a b : G Bool) : G Bool := bd a fun z => if z = true then pr true else b
def notG (a : G Bool) : G Bool := bd a fun z => pr (!z)
section
variable {α β γ : Type} {π : List Pt} {m ma mb mc : M} {ms : List M} {k ka kb kc : Kd} {e : Ec α} {ea : Ec β} {eb : Ec γ} {x : α} {t ta tb : G α} {b b' : Bool} {c c' : T} {g g' : G Bool}
theorem RfB.bind {tb : G Bool} {r : R Bool} {f : Bool → G Bool} {h : Bool → Sto → R Bool} {s : Sto} (a : RfB (tb s) r) (b : ∀ y s, RfB (f y s) (h y s)) : RfB (bd tb f s) (r.bind h) := by
  unfold bd
  cases q : tb s with
  | ok y s1 => rw [q] at a; cases a; exact b y s1
  | ex z s1 => rw [q] at a; cases a; exact rfl
  | bad => trivial
theorem TCp.tc (h : TCp π c b) : TC π c (pr b) := fun σ s M => by rw [h σ s M]; exact rfl
theorem tc_V (h : TE π m k eB g) : TC π (tV m) g := fun σ s M => by
  have := h σ s M
  unfold tV
  cases q : g s with
  | ok y s1 => rw [q] at this; obtain ⟨d, e1, r⟩ := this; rw [e1, r.bl]; exact rfl
  | ex z s1 => rw [q] at this; have this : m σ s = _ := this; rw [this]; exact rfl
  | bad => trivial
theorem tcp_V (h : TP π m k eB b) : TCp π (tV m) b := fun σ s M => by
  obtain ⟨d, e1, r⟩ := h σ s M
  simp [e1, r.bl]
theorem tc_or (h : TC π c g) (h' : TC π c' g') : TC π (tOr c c') (orG g g') := fun σ s M => (h σ s M).bind fun y s => by
  cases y
  · exact h' σ s M
  · exact rfl
theorem tc_not (h : TC π c g) : TC π (tNot c) (notG g) := fun σ s M => (h σ s M).bind fun y s => rfl
theorem tcp_and (h : TCp π c b) (h' : TCp π c' b') : TCp π (tAnd c c') (b && b') := fun σ s M => by
  simp only [tAnd, h σ s M, R.bind_ok]
  cases b
  · rfl
  · simp [h' σ s M]
theorem tcp_or (h : TCp π c b) (h' : TCp π c' b') : TCp π (tOr c c') (b || b') := fun σ s M => by
  simp only [tOr, h σ s M, R.bind_ok]
  cases b
  · simp [h' σ s M]
  · rfl
theorem te_ifp (hc : TCp π c b) (h1 : TE π ma k e ta) (h2 : TE π mb k e tb) : TE π (mIfE c ma mb) k e (if b = true then ta else tb) := fun σ s M => by
  simp only [mIfE, hc σ s M, R.bind_ok]
  cases b
  · exact h2 σ s M
  · exact h1 σ s M
theorem tp_if {y : α} (hc : TCp π c b) (h1 : TP π ma k e x) (h2 : TP π mb k e y) : TP π (mIfE c ma mb) k e (if b = true then x else y) := fun σ s M => by
  simp only [mIfE, hc σ s M, R.bind_ok]
  cases b
  · exact h2 σ s M
  · exact h1 σ s M
end
/-! ### what is walked -/
def RfS {α : Type} (e : Ec α) : R (List α) → R (List D) → Prop
  | .ok xs s, r => r = .ok (xs.map e.f) s
  | .ex x s, r => r = .ex x s
  | .bad, _ => True
def TI {α : Type} (π : List Pt) (src : Src) (e : Ec α) (t : G (List α)) : Prop := ∀ σ s, Mt π σ → RfS e (t s) (src σ s)
def TIp {α : Type} (π : List Pt) (src : Src) (e : Ec α) (xs : List α) : Prop := ∀ σ s, Mt π σ → src σ s = .ok (xs.map e.f) s
def irg (n : Nat) : List Int := (List.range n).map fun (i : Nat) => (i : Int)
def irg2 (a : Int) (n : Nat) : List Int := (List.range n).map fun (i : Nat) => a + (i : Int)
def irgD (a : Int) (n : Nat) : List Int := (List.range n).map fun (i : Nat) => a - (i : Int)
@[irreducible] def rangeT (j : Int) : G (List Int) := fun s => if big j = true then .ok (irg j.toNat) s else .bad
@[irreducible] def rangeT2 (i j : Int) : G (List Int) := fun s => if big i = true ∧ big j = true then .ok (irg2 i (j - i).toNat) s else .bad
@[irreducible] def rangeT3 (i j : Int) : G (List Int) := fun s => if big i = true ∧ big j = true then .ok (irgD i (i - j).toNat) s else .bad
def zipT3 {α β γ : Type} : List α → List β → List γ → List (α × β × γ)
  | x :: xs, y :: ys, z :: zs => (x, y, z) :: zipT3 xs ys zs
  | _, _, _ => []
def enumT {α : Type} (n : Nat) : List α → List (Int × α)
  | [] => []
  | x :: xs => ((n : Int), x) :: enumT (n + 1) xs
section
variable {α β γ : Type} {π : List Pt} {m ma mb mc : M} {k ka kb kc : Kd} {e : Ec α} {ea : Ec β} {eb : Ec γ}
theorem items_lst {xs : List α} {d : D} (h : Rp k (eL e) xs d) : itemsOf d = some (xs.map e.f) := by
  obtain ⟨o, ds, rfl, q⟩ := h.lst
  exact congrArg some q
theorem items_tup {xs : List α} {d : D} (h : Rp k (eT e) xs d) : itemsOf d = some (xs.map e.f) := by
  obtain ⟨ds, rfl, q⟩ := h.tup
  exact congrArg some q
/-- what is gone through, of whatever kind -/
def TIt {α : Type} (π : List Pt) (m : M) (e : Ec α) (xs : List α) : Prop := ∀ σ s, Mt π σ → ∃ d, m σ s = .ok d s ∧ itemsOf d = some (xs.map e.f)
def RfI {α : Type} (e : Ec α) : R (List α) → R D → Prop
  | .ok xs s, r => ∃ d, r = .ok d s ∧ itemsOf d = some (xs.map e.f)
  | .ex x s, r => r = .ex x s
  | .bad, _ => True
def TItE {α : Type} (π : List Pt) (m : M) (e : Ec α) (t : G (List α)) : Prop := ∀ σ s, Mt π σ → RfI e (t s) (m σ s)
theorem it_L {xs : List α} (h : TP π m k (eL e) xs) : TIt π m e xs := fun σ s M => let ⟨d, h1, r⟩ := h σ s M; ⟨d, h1, items_lst r⟩
theorem itE_of {c : Ec (List α)} {t : G (List α)} (h : TE π m k c t) (q : ∀ {x : List α} {d : D}, Rp k c x d → itemsOf d = some (x.map e.f)) : TItE π m e t := fun σ s M => by
  have := h σ s M
  cases z : t s with
  | ok x s1 => rw [z] at this; obtain ⟨d, h1, r⟩ := this; exact ⟨d, h1, q r⟩
  | ex x s1 => rw [z] at this; exact this
  | bad => trivial
theorem itE_L {t : G (List α)} (h : TE π m k (eL e) t) : TItE π m e t := itE_of h fun r => items_lst r
theorem itE_T {t : G (List α)} (h : TE π m k (eT e) t) : TItE π m e t := itE_of h fun r => items_tup r
theorem TIt.te {xs : List α} (h : TIt π m e xs) : TItE π m e (pr xs) := fun σ s M => h σ s M
theorem no_str {d : D} {xs : List D} (h : itemsOf d = some xs) : ∀ z, d ≠ .str z := fun z e => by rw [e] at h; cases h
theorem tip_seq {xs : List α} (h : TIt π m e xs) : TIp π (iSeq m) e xs := fun σ s M => by
  obtain ⟨d, e1, this⟩ := h σ s M
  have ns := no_str this
  simp only [iSeq, e1, R.bind_ok]
  cases d with
  | str z => exact (ns z rfl).elim
  | _ => simp only [this, R.of_some]
theorem ti_r1 {t : G Int} (h : TE π m k eI t) : TI π (iR1 [m]) eI (bd t rangeT) := fun σ s M => by
  have h := h σ s M
  unfold bd
  cases q : t s with
  | bad => trivial
  | ex x s1 => rw [q] at h; have h : m σ s = .ex x s1 := h; simp only [iR1, mArgs, h, R.bind_ex]; exact rfl
  | ok x s1 =>
    rw [q] at h
    obtain ⟨d, e1, r⟩ := h
    simp only [iR1, mArgs, e1, R.bind_ok, r.int, rangeT]
    split
    · simp [RfS, rng, irg, eI]
    · trivial
theorem ti_r1p {x : Int} (h : TP π m k eI x) : TI π (iR1 [m]) eI (rangeT x) := ti_r1 h.te
theorem ti_r3 {t u : G Int} (h : TE π ma ka eI t) (h' : TE π mb kb eI u) (h'' : TP π mc kc eI (-1)) : TI π (iR3 [ma, mb, mc]) eI (bd t fun i => bd u fun j => rangeT3 i j) := fun σ s M => by
  have h := h σ s M
  unfold bd
  cases q : t s with
  | bad => trivial
  | ex x s1 => rw [q] at h; have h : ma σ s = .ex x s1 := h; simp only [iR3, mArgs, h, R.bind_ex]; exact rfl
  | ok x s1 =>
    rw [q] at h
    obtain ⟨d, e1, r⟩ := h
    have h' := h' σ s1 M
    simp only [R.bind_ok]
    cases q : u s1 with
    | bad => trivial
    | ex x s2 => rw [q] at h'; have h' : mb σ s1 = .ex x s2 := h'; simp only [iR3, mArgs, e1, R.bind_ok, h', R.bind_ex]; exact rfl
    | ok y s2 =>
      rw [q] at h'
      obtain ⟨d', e2, r'⟩ := h'
      obtain ⟨d3, e3, r3⟩ := h'' σ s2 M
      simp only [iR3, mArgs, e1, e2, e3, R.bind_ok, r.int, r'.int, r3.int, rangeT3]
      by_cases hb : big x = true ∧ big y = true
      · rw [if_pos hb, if_pos ⟨hb.1, hb.2, trivial⟩]
        simp only [RfS, rng, irgD, List.map_map]
        congr 1
        apply List.map_congr_left
        intro i _
        show D.int (x + (i : Nat) * -1) = D.int (x - (i : Nat))
        congr 1
        omega
      · rw [if_neg hb]; trivial
theorem zip2_ec {xs : List α} {ys : List β} : zip2 (xs.map e.f) (ys.map ea.f) = (xs.zip ys).map (eP e ea).f := zip2_map e.f ea.f xs ys
theorem ti_zip2 {t : G (List α)} {u : G (List β)} (h : TItE π ma e t) (h' : TItE π mb ea u) : TI π (iZip2 [ma, mb]) (eP e ea) (bd t fun x => bd u fun y => pr (x.zip y)) := fun σ s M => by
  have h := h σ s M
  unfold bd
  cases q : t s with
  | bad => trivial
  | ex x s1 => rw [q] at h; have h : ma σ s = .ex x s1 := h; simp only [iZip2, mArgs, h, R.bind_ex]; exact rfl
  | ok x s1 =>
    rw [q] at h
    obtain ⟨d, e1, r⟩ := h
    have h' := h' σ s1 M
    simp only [R.bind_ok]
    cases q : u s1 with
    | bad => trivial
    | ex x s2 => rw [q] at h'; have h' : mb σ s1 = .ex x s2 := h'; simp only [iZip2, mArgs, e1, R.bind_ok, h', R.bind_ex]; exact rfl
    | ok y s2 =>
      rw [q] at h'
      obtain ⟨d', e2, r'⟩ := h'
      simp only [iZip2, mArgs, e1, e2, R.bind_ok, r, r', zip2_ec]
      exact rfl
/-! ### targets -/
def TB {α : Type} (tg : Tg) (e : Ec α) (x : α) (π π1 : List Pt) : Prop := ∀ σ, Mt π σ → ∃ σ1, tg.bind (e.f x) σ = some σ1 ∧ Mt π1 σ1
theorem tb_nm {i : Nat} {x : α} (hi' : Nat.blt i π.length = true := by rfl) : TB (.nm i) e x π (π.set i (.vr .fro e x)) := fun σ M => by
  have hl := M.len
  have hi := Nat.le_of_ble_eq_true hi'
  exact ⟨σ.set i (some (e.f x)), by unfold Tg.bind; rw [if_pos (by omega)], M.set i ⟨_, rfl, Rp.self e x⟩⟩
theorem tb_nmP {i : Nat} {x : α} [Pn e] (hi' : Nat.blt i π.length = true := by rfl) : TB (.nm i) e x π (π.set i (.vr .pl e x)) := fun σ M => by
  have hl := M.len
  have hi := Nat.le_of_ble_eq_true hi'
  exact ⟨σ.set i (some (e.f x)), by unfold Tg.bind; rw [if_pos (by omega)], M.set i ⟨_, rfl, Rp.selfP e x⟩⟩
theorem tb_t2 {a b : Tg} {x : α × β} {π1 π2 : List Pt} (h1 : TB a e x.1 π π1) (h2 : TB b ea x.2 π1 π2) : TB (.t2 a b) (eP e ea) x π π2 := fun σ M => by
  obtain ⟨σ1, e1, m1⟩ := h1 σ M
  obtain ⟨σ2, e2, m2⟩ := h2 σ1 m1
  exact ⟨σ2, by show (a.bind (e.f x.1) σ).bind _ = _; rw [e1]; exact e2, m2⟩
end
/-! ### lists made of lists -/
def lcG {α β : Type} (c : α → G Bool) (f : α → G β) : List α → List β → G (List β)
  | [], acc, s => .ok acc s
  | x :: xs, acc, s => match c x s with
    | .ok b s1 => if b = true then match f x s1 with
        | .ok y s2 => if acc.length < sizeLine then lcG c f xs (acc ++ [y]) s2 else .bad
        | _ => .bad
      else lcG c f xs acc s1
    | _ => .bad
def compG {α β : Type} (xs : List α) (c : α → G Bool) (f : α → G β) : G (List β) := lcG c f xs []
def mapG {α β : Type} (xs : List α) (f : α → G β) : G (List β) := lcG (fun _ => pr true) f xs []
@[irreducible] def mapT {α β : Type} (xs : List α) (f : α → β) : G (List β) := fun s => if xs.length ≤ sizeLine then .ok (xs.map f) s else .bad
@[irreducible] def filT {α β : Type} (xs : List α) (c : α → Bool) (f : α → β) : G (List β) := fun s => if xs.length ≤ sizeLine then .ok ((xs.filter c).map f) s else .bad
section
variable {α β γ : Type} {π : List Pt} {m : M} {k kb : Kd} {e : Ec α} {eb : Ec β} {src : Src} {tg : Tg} {vs : List Nat} {t : T} {c : α → G Bool} {f : α → G β}
theorem lc_core {kq : Kd} (q : ∀ (ys : List β) (ds : List D), (∀ p ∈ ys.zip ds, Rp kb eb p.1 p.2) → ys.length = ds.length → Rp kq (eL eb) ys (.lst true ds)) {σ : Env} (h : ∀ x, ∃ σ1, tg.bind (e.f x) σ = some σ1 ∧ (∀ s, RfB (c x s) (t σ1 s)) ∧ ∀ s, Rf kb eb (f x s) (m σ1 s)) :
    ∀ (xs : List α) (ys : List β) (ds : List D) (s : Sto), (∀ p ∈ ys.zip ds, Rp kb eb p.1 p.2) → ys.length = ds.length → Rf kq (eL eb) (lcG c f xs ys s) (lcR tg t m σ (xs.map e.f) ds s)
  | [], ys, ds, s, h1, h2 => ⟨_, rfl, q ys ds h1 h2⟩
  | x :: xs, ys, ds, s, h1, h2 => by
    obtain ⟨σ1, e1, hc, hf⟩ := h x
    have hc := hc s
    unfold lcG
    simp only [List.map_cons]
    unfold lcR
    simp only [e1]
    cases q1 : c x s with
    | bad => trivial
    | ex z s1 => trivial
    | ok b s1 =>
      rw [q1] at hc
      have hc : t σ1 s = .ok b s1 := hc
      simp only [hc]
      cases b with
      | false => exact lc_core q h xs ys ds s1 h1 h2
      | true =>
        simp only [if_true]
        have hf := hf s1
        cases q2 : f x s1 with
        | bad => trivial
        | ex z s1 => trivial
        | ok y s2 =>
          rw [q2] at hf
          obtain ⟨d, e2, r⟩ := hf
          simp only [e2, h2]
          split
          · exact lc_core q h xs (ys ++ [y]) (ds ++ [d]) s2 (by
              rw [List.zip_append h2]
              intro p hp
              rcases List.mem_append.mp hp with z | z
              · exact h1 p z
              · simp at z; subst z; exact r) (by simp [h2])
          · trivial
theorem fzs_of {kb : Kd} {ys : List β} : ∀ {ds : List D}, (∀ p ∈ ys.zip ds, Rp kb eb p.1 p.2) → ys.length = ds.length → fzs ds = ys.map eb.f := by
  induction ys with
  | nil => intro ds _ h; cases ds <;> simp_all
  | cons y ys ih =>
    intro ds h hl
    cases ds with
    | nil => simp at hl
    | cons d ds =>
      rw [List.map_cons, fzs, ih (fun p hp => h p (by simp [hp])) (by simpa using hl)]
      rw [(h (y, d) (by simp)).1]
theorem noFs_of {ys : List β} : ∀ {ds : List D}, (∀ p ∈ ys.zip ds, Rp .own eb p.1 p.2) → ys.length = ds.length → noFs ds = true := by
  induction ys with
  | nil => intro ds _ h; cases ds <;> simp_all
  | cons y ys ih =>
    intro ds h hl
    cases ds with
    | nil => simp at hl
    | cons d ds =>
      simp only [noFs, Bool.and_eq_true]
      exact ⟨(h (y, d) (by simp)).2, ih (fun p hp => h p (by simp [hp])) (by simpa using hl)⟩
theorem lc_anyE (hw : tg.within vs = true) {σ : Env} {s : Sto} {ts : G (List α)} (M : Mt π σ) (hi : TI π src e ts) (h : ∀ x, ∃ π1, TB tg e x (wipeP (fzP π) vs) π1 ∧ TC π1 t (c x) ∧ TE π1 m kb eb (f x)) {kq : Kd} (q : ∀ (ys : List β) (ds : List D), (∀ p ∈ ys.zip ds, Rp kb eb p.1 p.2) → ys.length = ds.length → Rp kq (eL eb) ys (.lst true ds)) :
    Rf kq (eL eb) (bd ts (fun xs => lcG c f xs []) s) (mLc src tg vs t m σ s) := by
  have hi := hi σ s M
  unfold bd
  cases z : ts s with
  | bad => trivial
  | ex x s1 => rw [z] at hi; have hi : src σ s = .ex x s1 := hi; simp only [mLc, hi, R.bind_ex]; exact rfl
  | ok xs s1 =>
    rw [z] at hi
    have hi : src σ s = .ok (xs.map e.f) s1 := hi
    simp only [mLc, hi, R.bind_ok, hw, if_true]
    exact lc_core q (fun x => by
      obtain ⟨π1, h1, h2, h3⟩ := h x
      obtain ⟨σ1, e1, m1⟩ := h1 _ (M.fzE.wipe vs)
      exact ⟨σ1, e1, fun s => h2 σ1 s m1, fun s => h3 σ1 s m1⟩) xs [] [] s1 (by simp) rfl
theorem q_own {ys : List β} {ds : List D} (h : ∀ p ∈ ys.zip ds, Rp .own eb p.1 p.2) (hl : ys.length = ds.length) : Rp .own (eL eb) ys (.lst true ds) := rp_own (fzs_of h hl) (noFs_of h hl)
-- a list of what is owned, of anything; of a pure source, another one; with a test or none
theorem te_lcOE {ts : G (List α)} (hi : TI π src e ts) (h : ∀ x, ∃ π1, TB tg e x (wipeP (fzP π) vs) π1 ∧ TC π1 t (c x) ∧ TE π1 m .own eb (f x)) (hw : tg.within vs = true := by rfl) : TE π (mLc src tg vs t m) .own (eL eb) (bd ts fun xs => compG xs c f) := fun σ s M => lc_anyE hw M hi h fun _ _ => q_own
theorem tc_true : TC π tTrue (pr true) := fun σ s M => rfl
theorem te_mapOE {ts : G (List α)} (hi : TI π src e ts) (h : ∀ x, ∃ π1, TB tg e x (wipeP (fzP π) vs) π1 ∧ TE π1 m .own eb (f x)) (hw : tg.within vs = true := by rfl) : TE π (mLc src tg vs tTrue m) .own (eL eb) (bd ts fun xs => mapG xs f) := te_lcOE hi (fun x => let ⟨π1, a, b⟩ := h x; ⟨π1, a, tc_true, b⟩) hw
end
end Zm
set_option linter.all false
set_option autoImplicit false
set_option maxRecDepth 100000
/-! TL3: statements, functions. -/
namespace Zm
open PySem
inductive RB (τ ρ : Type) where
  | nx (v : τ) (s : Sto) | rt (r : ρ) (s : Sto) | bk (v : τ) (s : Sto) | ct (v : τ) (s : Sto) | ex (x : Xc) (s : Sto) | bad
abbrev B (τ ρ : Type) := Sto → RB τ ρ
def nxB {τ ρ : Type} (v : τ) : B τ ρ := fun s => .nx v s
def rtB {τ ρ : Type} (r : ρ) : B τ ρ := fun s => .rt r s
def badB {τ ρ : Type} : B τ ρ := fun _ => .bad
/-- an expression, and what follows -/
def eb {α τ ρ : Type} (t : G α) (k : α → B τ ρ) : B τ ρ := fun s => match t s with
  | .ok x s' => k x s'
  | .ex x s' => .ex x s'
  | .bad => .bad
/-- what is known, given a name -/
def lt {α τ ρ : Type} (x : α) (k : α → B τ ρ) : B τ ρ := k x
/-- one block, and what follows -/
def sq {τ τ' ρ : Type} (a : B τ ρ) (k : τ → B τ' ρ) : B τ' ρ := fun s => match a s with
  | .nx v s' => k v s'
  | .rt r s' => .rt r s'
  | .ex x s' => .ex x s'
  | _ => .bad
def ifB {τ ρ : Type} (c : G Bool) (a b : B τ ρ) : B τ ρ := eb c fun z => if z = true then a else b
def forT {α τ ρ : Type} (f : α → τ → B τ ρ) : List α → τ → B τ ρ
  | [], v, s => .nx v s
  | x :: xs, v, s => match f x v s with
    | .nx v s => forT f xs v s
    | .ct v s => forT f xs v s
    | .bk v s => .nx v s
    | .rt r s => .rt r s
    | .ex x s => .ex x s
    | .bad => .bad
def fnT {τ ρ : Type} (b : B τ ρ) : G ρ := fun s => match b s with
  | .rt r s => .ok r s
  | .ex x s => .ex x s
  | _ => .bad
/-- a function that ends without a return -/
def fnU {τ : Type} (b : B τ Unit) : G Unit := fun s => match b s with
  | .rt r s => .ok r s
  | .nx _ s => .ok () s
  | .ex x s => .ex x s
  | _ => .bad
def Rs {τ ρ : Type} (π' : τ → List Pt) (k : Kd) (e : Ec ρ) : RB τ ρ → RS → Prop
  | .nx v s, r => ∃ σ, r = .nx σ s ∧ Mt (π' v) σ
  | .rt x s, r => ∃ d, r = .rt d s ∧ Rp k e x d
  | .bk v s, r => ∃ σ, r = .bk σ s ∧ Mt (π' v) σ
  | .ct v s, r => ∃ σ, r = .ct σ s ∧ Mt (π' v) σ
  | .ex x s, r => ∃ σ, r = .ex x σ s
  | .bad, _ => True
def TS {τ ρ : Type} (π : List Pt) (m : MS) (π' : τ → List Pt) (k : Kd) (e : Ec ρ) (t : B τ ρ) : Prop := ∀ σ s, Mt π σ → Rs π' k e (t s) (m σ s)
section
theorem ptm {α : Type} {k : Kd} {e : Ec α} {x : α} {d : D} (r : Rp k e x d) : PtM (.vr k e x) (some d) := ⟨d, rfl, r⟩
variable {α β γ τ τ' τ1 ρ : Type} {π π1 : List Pt} {m ma mb : M} {ms : List M} {a b rest : MS} {k ka kb kc kr : Kd} {e : Ec α} {ea : Ec β} {eb' : Ec γ} {er : Ec ρ} {x : α} {t : G α} {π' : τ → List Pt} {i j : Nat} {msk : List Bool} {c : T} {g : G Bool} {cb : Bool} {tr : B τ ρ}
theorem ts_one (h : TS π (mSeq a mNil) π' kr er tr) : TS π a π' kr er tr := fun σ s M => by
  have := h σ s M
  have e : mSeq a mNil σ s = a σ s := by
    unfold mSeq
    cases a σ s <;> rfl
  rw [e] at this; exact this
theorem ts_nil {v : τ} (w : Wk π (π' v)) : TS π mNil π' kr er (nxB v) := fun σ s M => ⟨σ, rfl, w σ M⟩
theorem ts_bad : TS π a π' kr er badB := fun σ s M => trivial
theorem Rs.eb {t : G α} {q : α → B τ ρ} {r : R D} {σ : Env} {s : Sto} {h : D → Sto → RS} (a : Rf k e (t s) r) (b : ∀ x d s, Rp k e x d → Rs π' kr er (q x s) (h d s)) : Rs π' kr er (eb t q s) (r.to σ h) := by
  unfold Zm.eb
  cases z : t s with
  | bad => trivial
  | ex x s1 => rw [z] at a; have a : r = .ex x s1 := a; rw [a]; exact ⟨σ, rfl⟩
  | ok x s1 => rw [z] at a; obtain ⟨d, rfl, h2⟩ := a; exact b x d s1 h2
theorem ts_retE {t : G ρ} (h : TE π m kr er t) : TS π (mSeq (mRet m) rest) π' kr er (eb t rtB) := fun σ s M => by
  have h := h σ s M
  unfold Zm.eb
  cases z : t s with
  | bad => trivial
  | ex x s1 => rw [z] at h; have h : m σ s = .ex x s1 := h; simp only [mSeq, mRet, h, R.to_ex, RS.then_ex]; exact ⟨σ, rfl⟩
  | ok x s1 => rw [z] at h; obtain ⟨d, h1, h2⟩ := h; simp only [mSeq, mRet, h1, R.to_ok, RS.then_rt]; exact ⟨d, rfl, h2⟩
theorem ts_retP {x : ρ} (h : TP π m kr er x) : TS π (mSeq (mRet m) rest) π' kr er (rtB x) := fun σ s M => by
  obtain ⟨d, h1, h2⟩ := h σ s M
  simp only [mSeq, mRet, h1, R.to_ok, RS.then_rt]
  exact ⟨d, rfl, h2⟩
theorem ts_retV (i : Nat) {x : ρ} (h : π[i]? = some (.vr kr er x) := by rfl) : TS π (mSeq (mRetV i) rest) π' kr er (rtB x) := fun σ s M => by
  obtain ⟨d, q, r⟩ := M.get h
  simp only [mSeq, mRetV, q, RS.then_rt]
  exact ⟨d, rfl, r⟩
/-! assignments -/
theorem ts_setE {q : α → B τ ρ} (h : TE π m .own e t) (n : ∀ x, TS (π.set i (.vr .own e x)) rest π' kr er (q x)) (hi' : Nat.blt i π.length = true := by rfl) : TS π (mSeq (mSetD msk i m) rest) π' kr er (eb t q) := fun σ s M => by
  have hl := M.len
  have hi := Nat.le_of_ble_eq_true hi'
  have h := h σ s M
  unfold Zm.eb
  cases z : t s with
  | bad => trivial
  | ex x s1 => rw [z] at h; have h : m σ s = .ex x s1 := h; simp only [mSeq, mSetD, h, R.to_ex, RS.then_ex]; exact ⟨σ, rfl⟩
  | ok x s1 =>
    rw [z] at h; obtain ⟨d, h1, h2⟩ := h
    simp only [mSeq, mSetD, h1, R.to_ok]
    rw [if_pos h2.2, if_pos (by omega)]
    exact n x _ s1 (M.set i ⟨d, rfl, h2⟩)
theorem ts_setPlE {q : α → B τ ρ} (h : TE π m .pl e t) (n : ∀ x, TS (π.set i (.vr .pl e x)) rest π' kr er (q x)) (hi' : Nat.blt i π.length = true := by rfl) : TS π (mSeq (mSetD msk i m) rest) π' kr er (eb t q) := fun σ s M => by
  have hl := M.len
  have hi := Nat.le_of_ble_eq_true hi'
  have h := h σ s M
  unfold Zm.eb
  cases z : t s with
  | bad => trivial
  | ex x s1 => rw [z] at h; have h : m σ s = .ex x s1 := h; simp only [mSeq, mSetD, h, R.to_ex, RS.then_ex]; exact ⟨σ, rfl⟩
  | ok x s1 =>
    rw [z] at h; obtain ⟨d, h1, h2⟩ := h
    simp only [mSeq, mSetD, h1, R.to_ok]
    rw [if_pos (plain_noF _ h2.2), if_pos (by omega)]
    exact n x _ s1 (M.set i ⟨d, rfl, h2⟩)
theorem ts_setAE {q : α → B τ ρ} (h : TE (restrP msk π) m k e t) (n : ∀ x, TS ((frzP msk π).set i (.vr .any e x)) rest π' kr er (q x)) (hi' : Nat.blt i π.length = true := by rfl) : TS π (mSeq (mSetD msk i m) rest) π' kr er (eb t q) := fun σ s M => by
  have hl := M.len
  have hi := Nat.le_of_ble_eq_true hi'
  have h1 := h σ s M.restr'
  have h2 := h _ s (M.restr (bs := msk))
  unfold Zm.eb
  cases z : t s with
  | bad => trivial
  | ex x s1 => rw [z] at h1; have h1 : m σ s = .ex x s1 := h1; simp only [mSeq, mSetD, h1, R.to_ex, RS.then_ex]; exact ⟨σ, rfl⟩
  | ok x s1 =>
    rw [z] at h1 h2; obtain ⟨d, h1, r1⟩ := h1; obtain ⟨d2, h2, r2⟩ := h2
    simp only [mSeq, mSetD, h1, R.to_ok]
    by_cases hn : noF d = true
    · rw [if_pos hn, if_pos (by omega)]
      exact n x _ s1 (M.frz'.set i ⟨d, rfl, r1.any⟩)
    · rw [if_neg hn]
      simp only [mSetF, h2, R.to_ok]
      rw [if_pos (by omega)]
      exact n x _ s1 (M.frz.set i ⟨_, rfl, r2.fz.any⟩)
theorem ts_setP {q : α → B τ ρ} (h : TP π m .own e x) (n : ∀ x, TS (π.set i (.vr .own e x)) rest π' kr er (q x)) (hi' : Nat.blt i π.length = true := by rfl) : TS π (mSeq (mSetD msk i m) rest) π' kr er (lt x q) := ts_setE h.te n hi'
theorem ts_setPlP {q : α → B τ ρ} (h : TP π m .pl e x) (n : ∀ x, TS (π.set i (.vr .pl e x)) rest π' kr er (q x)) (hi' : Nat.blt i π.length = true := by rfl) : TS π (mSeq (mSetD msk i m) rest) π' kr er (lt x q) := ts_setPlE h.te n hi'
theorem ts_setAP {q : α → B τ ρ} (h : TP (restrP msk π) m k e x) (n : ∀ x, TS ((frzP msk π).set i (.vr .any e x)) rest π' kr er (q x)) (hi' : Nat.blt i π.length = true := by rfl) : TS π (mSeq (mSetD msk i m) rest) π' kr er (lt x q) := ts_setAE h.te n hi'
theorem ts_do {q : B τ ρ} (h : TE π m k e t) (n : TS π rest π' kr er q) : TS π (mSeq (mDo m) rest) π' kr er (eb t fun _ => q) := fun σ s M => by
  have h := h σ s M
  unfold Zm.eb
  cases z : t s with
  | bad => trivial
  | ex x s1 => rw [z] at h; have h : m σ s = .ex x s1 := h; simp only [mSeq, mDo, h, R.to_ex, RS.then_ex]; exact ⟨σ, rfl⟩
  | ok x s1 =>
    rw [z] at h; obtain ⟨d, h1, h2⟩ := h
    simp only [mSeq, mDo, h1, R.to_ok, RS.then_nx]
    exact n σ s1 M
theorem ts_aug {f : Int → Int → Int} {x y : Int} {q : Int → B τ ρ} (i : Nat) (h : TP π m k eI y) (n : ∀ x, TS (π.set i (.vr .pl eI x)) rest π' kr er (q x)) (hx : π[i]? = some (.vr kc eI x) := by rfl) : TS π (mSeq (mAug f i m) rest) π' kr er (lt (f x y) q) := fun σ s M => by
  obtain ⟨d0, e0, r0⟩ := M.get hx
  rw [r0.int] at e0
  obtain ⟨d, h1, r⟩ := h σ s M
  simp only [mSeq, mAug, e0, h1, R.to_ok, r.int, RS.then_nx]
  exact n _ _ s (M.set i ⟨_, rfl, rfl, rfl⟩)
theorem ts_augE {f : Int → Int → Int} {x : Int} {t : G Int} {q : Int → B τ ρ} (i : Nat) (h : TE π m k eI t) (n : ∀ x, TS (π.set i (.vr .pl eI x)) rest π' kr er (q x)) (hx : π[i]? = some (.vr kc eI x) := by rfl) : TS π (mSeq (mAug f i m) rest) π' kr er (eb t fun y => lt (f x y) q) := fun σ s M => by
  obtain ⟨d0, e0, r0⟩ := M.get hx
  rw [r0.int] at e0
  have h := h σ s M
  unfold Zm.eb
  cases z : t s with
  | bad => trivial
  | ex x s1 => rw [z] at h; have h : m σ s = .ex x s1 := h; simp only [mSeq, mAug, e0, h, R.to_ex, RS.then_ex]; exact ⟨σ, rfl⟩
  | ok y s1 =>
    rw [z] at h; obtain ⟨d, h1, r⟩ := h
    simp only [mSeq, mAug, e0, h1, R.to_ok, r.int, RS.then_nx]
    exact n _ _ s1 (M.set i ⟨_, rfl, rfl, rfl⟩)
/-! a, b = .., .. -/
/-! ifs: what follows is in both; or behind both -/
theorem seq_if {c : T} {a b rest : MS} {σ : Env} {s : Sto} : mSeq (mIf c a b) rest σ s = (c σ s).to σ fun z s' => if z = true then mSeq a rest σ s' else mSeq b rest σ s' := by
  simp only [mSeq, mIf]
  cases c σ s with
  | ok z s1 => simp only [R.to_ok]; split <;> rfl
  | ex x s1 => rfl
  | bad => rfl
theorem RfB.to {r : R Bool} {σ : Env} {s : Sto} {q : Bool → B τ ρ} {h : Bool → Sto → RS} (a : RfB (g s) r) (b : ∀ z s, Rs π' kr er (q z s) (h z s)) : Rs π' kr er (eb g q s) (r.to σ h) := by
  unfold Zm.eb
  cases z : g s with
  | bad => trivial
  | ex x s1 => rw [z] at a; have a : r = .ex x s1 := a; rw [a]; exact ⟨σ, rfl⟩
  | ok x s1 => rw [z] at a; have a : r = .ok x s1 := a; rw [a]; exact b x s1
theorem ts_ifD {u v : B τ ρ} (hc : TC π c g) (h1 : TS π (mSeq a rest) π' kr er u) (h2 : TS π (mSeq b rest) π' kr er v) : TS π (mSeq (mIf c a b) rest) π' kr er (ifB g u v) := fun σ s M => by
  rw [seq_if]
  exact (hc σ s M).to fun z s => by
    cases z
    · exact h2 σ s M
    · exact h1 σ s M
theorem ts_ifDp {u v : B τ ρ} (hc : TCp π c cb) (h1 : TS π (mSeq a rest) π' kr er u) (h2 : TS π (mSeq b rest) π' kr er v) : TS π (mSeq (mIf c a b) rest) π' kr er (if cb = true then u else v) := fun σ s M => by
  rw [seq_if, hc σ s M, R.to_ok]
  cases cb
  · exact h2 σ s M
  · exact h1 σ s M
theorem ts_skip {u : B τ ρ} (h : TS π rest π' kr er u) : TS π (mSeq mNil rest) π' kr er u := fun σ s M => h σ s M
theorem Rs.sq {u : B τ ρ} {q : τ → B τ' ρ} {πq : τ' → List Pt} {r : RS} {s : Sto} (h : Rs π' kr er (u s) r) (n : ∀ v, TS (π' v) rest πq kr er (q v)) : Rs πq kr er (sq u q s) (r.then rest) := by
  unfold Zm.sq
  cases z : u s with
  | nx v s1 => rw [z] at h; obtain ⟨σ1, rfl, m1⟩ := h; exact n v σ1 s1 m1
  | rt r s1 => rw [z] at h; obtain ⟨d, rfl, m1⟩ := h; exact ⟨d, rfl, m1⟩
  | ex x s1 => rw [z] at h; obtain ⟨σ1, rfl⟩ := h; exact ⟨σ1, rfl⟩
  | bk v s1 => trivial
  | ct v s1 => trivial
  | bad => trivial
theorem ts_sq {u : B τ ρ} {q : τ → B τ' ρ} {πq : τ' → List Pt} (h : TS π a π' kr er u) (n : ∀ v, TS (π' v) rest πq kr er (q v)) : TS π (mSeq a rest) πq kr er (sq u q) := fun σ s M => (h σ s M).sq n
theorem ts_ifp {u v : B τ ρ} (hc : TCp π c cb) (h1 : TS π a π' kr er u) (h2 : TS π b π' kr er v) : TS π (mIf c a b) π' kr er (if cb = true then u else v) := fun σ s M => by
  simp only [mIf, hc σ s M, R.to_ok]
  cases cb
  · exact h2 σ s M
  · exact h1 σ s M
/-! loops -/
theorem for_core' {tg : Tg} {body : MS} {f : α → τ → B τ ρ} (h : ∀ x v, ∃ π1, TB tg e x (π' v) π1 ∧ TS π1 body π' kr er (f x v)) : ∀ (xs : List α) (v : τ) (σ : Env) (s : Sto), Mt (π' v) σ → Rs π' kr er (forT f xs v s) (forR tg body (xs.map e.f) σ s)
  | [], v, σ, s, M => ⟨σ, rfl, M⟩
  | x :: xs, v, σ, s, M => by
    obtain ⟨π1, hb, hs⟩ := h x v
    obtain ⟨σ1, e1, m1⟩ := hb σ M
    have := hs σ1 s m1
    rw [List.map_cons]
    unfold forT forR
    simp only [e1]
    cases z : f x v s with
    | nx v s1 => rw [z] at this; obtain ⟨σ2, e2, m2⟩ := this; simp only [e2]; exact for_core' h xs v σ2 s1 m2
    | ct v s1 => rw [z] at this; obtain ⟨σ2, e2, m2⟩ := this; simp only [e2]; exact for_core' h xs v σ2 s1 m2
    | bk v s1 => rw [z] at this; obtain ⟨σ2, e2, m2⟩ := this; simp only [e2]; exact ⟨σ2, rfl, m2⟩
    | rt r s1 => rw [z] at this; obtain ⟨d, e2, m2⟩ := this; simp only [e2]; exact ⟨d, rfl, m2⟩
    | ex y s1 => rw [z] at this; obtain ⟨σ2, e2⟩ := this; simp only [e2]; exact ⟨σ2, rfl⟩
    | bad => trivial
theorem ts_for {src : Src} {tg : Tg} {body : MS} {f : α → τ → B τ ρ} {xs : List α} {v0 : τ} (π0 : τ → List Pt) (hi : TIp (restrP msk π) src e xs) (w : Wk (frzP msk π) (π0 v0)) (h : ∀ x v, ∃ π1, TB tg e x (π0 v) π1 ∧ TS π1 body π0 kr er (f x v)) : TS π (mFor msk src tg body) π0 kr er (forT f xs v0) := fun σ s M => by
  simp only [mFor, hi _ s (M.restr (bs := msk)), R.to_ok]
  exact for_core' h xs v0 _ s (w _ M.frz)
theorem ts_forE {src : Src} {tg : Tg} {body : MS} {f : α → τ → B τ ρ} {ts : G (List α)} {v0 : τ} (π0 : τ → List Pt) (hi : TI (restrP msk π) src e ts) (w : Wk (frzP msk π) (π0 v0)) (h : ∀ x v, ∃ π1, TB tg e x (π0 v) π1 ∧ TS π1 body π0 kr er (f x v)) : TS π (mFor msk src tg body) π0 kr er (eb ts fun xs => forT f xs v0) := fun σ s M => by
  have hi := hi _ s (M.restr (bs := msk))
  unfold Zm.eb
  cases z : ts s with
  | bad => trivial
  | ex x s1 => rw [z] at hi; have hi : src (Zm.restr msk σ) s = .ex x s1 := hi; simp only [mFor, hi, R.to_ex]; exact ⟨σ, rfl⟩
  | ok xs s1 =>
    rw [z] at hi; have hi : src (Zm.restr msk σ) s = .ok (xs.map e.f) s1 := hi
    simp only [mFor, hi, R.to_ok]
    exact for_core' h xs v0 _ s1 (w _ M.frz)
theorem ts_forP {src : Src} {tg : Tg} {body : MS} {f : α → τ → B τ ρ} {ts : G (List α)} {v0 : τ} (π0 : τ → List Pt) (hi : TI π src e ts) (w : Wk π (π0 v0)) (h : ∀ x v, ∃ π1, TB tg e x (π0 v) π1 ∧ TS π1 body π0 kr er (f x v)) : TS π (mForP src tg body) π0 kr er (eb ts fun xs => forT f xs v0) := fun σ s M => by
  have hi := hi σ s M
  unfold Zm.eb
  cases z : ts s with
  | bad => trivial
  | ex x s1 => rw [z] at hi; have hi : src σ s = .ex x s1 := hi; simp only [mForP, hi, R.to_ex]; exact ⟨σ, rfl⟩
  | ok xs s1 =>
    rw [z] at hi; have hi : src σ s = .ok (xs.map e.f) s1 := hi
    simp only [mForP, hi, R.to_ok]
    exact for_core' h xs v0 _ s1 (w _ M)
/-! a list's own methods -/
theorem ts_upd {g : UG} {q : α → B τ ρ} {xs : List β} {k' : α → Option (List β)} (i : Nat) (hx : π[i]? = some (.vr .own (eL ea) xs)) (h : TE π m .own e t)
    (hg : ∀ x d ds, Rp .own e x d → fzs ds = xs.map ea.f → noFs ds = true → ∀ ys, k' x = some ys → ∃ ds', g ds [d] = some ds' ∧ fzs ds' = ys.map ea.f ∧ noFs ds' = true) (qb : α → B τ ρ) (n : ∀ x ys, k' x = some ys → TS (π.set i (.vr .own (eL ea) ys)) rest π' kr er (qb x)) (n0 : ∀ x, k' x = none → qb x = badB) :
    TS π (mSeq (mUpd g msk i [m]) rest) π' kr er (eb t qb) := fun σ s M => by
  have h := h σ s M
  obtain ⟨d0, e0, r0⟩ := M.get hx
  obtain ⟨ds, rfl, q1, q2⟩ := r0.lstO
  unfold Zm.eb
  cases z : t s with
  | bad => trivial
  | ex x s1 => rw [z] at h; have h : m σ s = .ex x s1 := h; simp only [mSeq, mUpd, e0, mArgs, h, R.bind_ex, R.to_ex, RS.then_ex]; exact ⟨σ, rfl⟩
  | ok x s1 =>
    rw [z] at h; obtain ⟨d, h1, r1⟩ := h
    simp only [mSeq, mUpd, e0, mArgs, h1, R.bind_ok, R.to_ok]
    rw [if_pos (by simp [r1.2])]
    cases hk : k' x with
    | none => rw [n0 x hk]; trivial
    | some ys =>
      obtain ⟨ds', g1, g2, g3⟩ := hg x d ds r1 q1 q2 ys hk
      simp only [g1, RS.then_nx]
      exact n x ys hk _ s1 (M.set i ⟨_, rfl, rp_own g2 g3⟩)
theorem ts_updA {g : UG} {q : α → B τ ρ} {kx : Kd} {xs : List β} {k' : α → Option (List β)} (i : Nat) (hx : ∀ d, Rp kx (eL ea) xs d → Rp .top (eL ea) xs d) (h0 : (frzP msk π)[i]? = some (.vr kx (eL ea) xs)) (h : TE (restrP msk π) m k e t)
    (hg : ∀ x d ds, Rp k e x d → fzs ds = xs.map ea.f → ∀ ys, k' x = some ys → (∃ ds', g ds [d] = some ds' ∧ fzs ds' = ys.map ea.f) ∧ (∃ ds', g ds [fz d] = some ds' ∧ fzs ds' = ys.map ea.f)) (qb : α → B τ ρ) (n : ∀ x ys, k' x = some ys → TS ((frzP msk π).set i (.vr .top (eL ea) ys)) rest π' kr er (qb x)) (n0 : ∀ x, k' x = none → qb x = badB) :
    TS π (mSeq (mUpd g msk i [m]) rest) π' kr er (eb t qb) := fun σ s M => by
  have hr := h _ s (M.restr (bs := msk))
  have h := h σ s M.restr'
  obtain ⟨d0, e0, r0⟩ := M.frz'.get h0
  obtain ⟨ds, rfl, q1⟩ := (hx _ r0).lstT
  obtain ⟨d2, e2, r2⟩ := M.frz.get h0
  obtain ⟨ds2, rfl, q2⟩ := (hx _ r2).lstT
  unfold Zm.eb
  cases z : t s with
  | bad => trivial
  | ex x s1 => rw [z] at h; have h : m σ s = .ex x s1 := h; simp only [mSeq, mUpd, e0, mArgs, h, R.bind_ex, R.to_ex, RS.then_ex]; exact ⟨σ, rfl⟩
  | ok x s1 =>
    rw [z] at h hr; obtain ⟨d, h1, r1⟩ := h; obtain ⟨d', h1', r1'⟩ := hr
    simp only [mSeq, mUpd, e0, mArgs, h1, R.bind_ok, R.to_ok]
    cases hk : k' x with
    | none => rw [n0 x hk]; trivial
    | some ys =>
      obtain ⟨⟨ds', g1, g2⟩, _⟩ := hg x d ds r1 q1 ys hk
      obtain ⟨_, ds3, g3, g4⟩ := hg x d' ds2 r1' q2 ys hk
      split
      · simp only [g1, RS.then_nx]
        exact n x ys hk _ s1 (M.frz'.set i ⟨_, rfl, rp_top g2⟩)
      · simp only [mUpdF, e2, mArgs, h1', R.bind_ok, R.to_ok, fzs, g3, RS.then_nx]
        exact n x ys hk _ s1 (M.frz.set i ⟨_, rfl, rp_top g4⟩)
theorem fzs_app {xs : List β} {ds : List D} {x : β} {d : D} (h : fzs ds = xs.map ea.f) (r : fz d = ea.f x) : fzs (ds ++ [d]) = (xs ++ [x]).map ea.f := by
  rw [fzs_eq] at h ⊢; simp [h, r]
theorem noFs_app {ds es : List D} (h : noFs ds = true) (h' : noFs es = true) : noFs (ds ++ es) = true := by
  rw [noFs_iff] at h h' ⊢
  intro x hx
  rcases List.mem_append.mp hx with z | z
  · exact h x z
  · exact h' x z
/-- xs.append(x) -/
def apB {β τ ρ : Type} (xs : List β) (x : β) (k : List β → B τ ρ) : B τ ρ := fun s => if xs.length < sizeLine then k (xs ++ [x]) s else .bad
def apO {β : Type} (xs : List β) (x : β) : Option (List β) := if xs.length < sizeLine then some (xs ++ [x]) else none
theorem ts_appE {xs : List α} {q : List α → B τ ρ} (i : Nat) (h : TE π m .own e t) (n : ∀ ys, TS (π.set i (.vr .own (eL e) ys)) rest π' kr er (q ys)) (hx : π[i]? = some (.vr .own (eL e) xs) := by rfl) : TS π (mSeq (mUpd uApp msk i [m]) rest) π' kr er (eb t fun x => apB xs x q) := by
  refine ts_upd (q := fun _ => badB) (k' := apO xs) i hx h (fun x d ds r q1 q2 ys hk => ?_) _ (fun x ys hk => ?_) (fun x hk => ?_)
  · unfold apO at hk
    split at hk <;> simp at hk
    subst hk
    have := rp_len q1
    exact ⟨ds ++ [d], by unfold uApp; simp only []; rw [if_pos (by omega)], fzs_app q1 r.1, noFs_app q2 (by simp [r.2])⟩
  · unfold apO at hk
    split at hk <;> simp at hk
    subst hk
    intro σ s M
    have := n (xs ++ [x]) σ s M
    unfold apB; rw [if_pos ‹_›]; exact this
  · unfold apO at hk
    split at hk <;> simp at hk
    funext s
    unfold apB; rw [if_neg ‹_›]; rfl
theorem ts_appP {xs : List α} {q : List α → B τ ρ} (i : Nat) (h : TP π m .own e x) (n : ∀ ys, TS (π.set i (.vr .own (eL e) ys)) rest π' kr er (q ys)) (hx : π[i]? = some (.vr .own (eL e) xs) := by rfl) : TS π (mSeq (mUpd uApp msk i [m]) rest) π' kr er (apB xs x q) := ts_appE (t := pr x) i h.te n hx
theorem app_hg {xs : List α} {k : Kd} : ∀ (x : α) (d : D) (ds : List D), Rp k e x d → fzs ds = xs.map e.f → ∀ ys, apO xs x = some ys → (∃ ds', uApp ds [d] = some ds' ∧ fzs ds' = ys.map e.f) ∧ (∃ ds', uApp ds [fz d] = some ds' ∧ fzs ds' = ys.map e.f) := fun x d ds r q1 ys hk => by
  unfold apO at hk
  split at hk <;> simp at hk
  subst hk
  have := rp_len q1
  exact ⟨⟨ds ++ [d], by unfold uApp; simp only []; rw [if_pos (by omega)], fzs_app q1 r.1⟩, ⟨ds ++ [fz d], by unfold uApp; simp only []; rw [if_pos (by omega)], fzs_app q1 (by rw [fz_fz]; exact r.1)⟩⟩
theorem ts_appAE {xs : List α} {q : List α → B τ ρ} (i : Nat) (h : TE (restrP msk π) m k e t) (n : ∀ ys, TS ((frzP msk π).set i (.vr .top (eL e) ys)) rest π' kr er (q ys)) (hx : (frzP msk π)[i]? = some (.vr .top (eL e) xs) := by rfl) : TS π (mSeq (mUpd uApp msk i [m]) rest) π' kr er (eb t fun x => apB xs x q) := by
  refine ts_updA (q := fun _ => badB) (k' := apO xs) i (fun _ h => h) hx h app_hg _ (fun x ys hk => ?_) (fun x hk => ?_)
  · unfold apO at hk
    split at hk <;> simp at hk
    subst hk
    intro σ s M
    have := n (xs ++ [x]) σ s M
    unfold apB; rw [if_pos ‹_›]; exact this
  · unfold apO at hk
    split at hk <;> simp at hk
    funext s
    unfold apB; rw [if_neg ‹_›]; rfl
theorem ts_appAP {xs : List α} {q : List α → B τ ρ} (i : Nat) (h : TP (restrP msk π) m k e x) (n : ∀ ys, TS ((frzP msk π).set i (.vr .top (eL e) ys)) rest π' kr er (q ys)) (hx : (frzP msk π)[i]? = some (.vr .top (eL e) xs) := by rfl) : TS π (mSeq (mUpd uApp msk i [m]) rest) π' kr er (apB xs x q) := ts_appAE (t := pr x) i h.te n hx
end
/-! functions -/
section
variable {τ ρ : Type} {k : Kd} {er : Ec ρ} {π' : τ → List Pt} {body : MS}
def nosP (n : Nat) : List Pt := List.replicate n .no
theorem mt_nos : ∀ n : Nat, Mt (nosP n) (List.replicate n none)
  | 0 => trivial
  | n + 1 => ⟨trivial, mt_nos n⟩
theorem mt_cons {α : Type} {k : Kd} {e : Ec α} {x : α} {d : D} {π : List Pt} {σ : Env} (r : Rp k e x d) (h : Mt π σ) : Mt (.vr k e x :: π) (some d :: σ) := ⟨⟨d, rfl, r⟩, h⟩
theorem fn_ok {b : B τ ρ} {π : List Pt} {np ns : Nat} {ds : List D} {s : Sto} (hl : ds.length = np) (M : Mt π (ds.map some ++ List.replicate (ns - np) none)) (h : TS π body π' k er b) : Rf k er (fnT b s) (mkFn np ns body ds s) := by
  have := h _ s M
  unfold fnT mkFn
  rw [if_pos hl]
  cases z : b s with
  | nx v s1 => trivial
  | rt r s1 => rw [z] at this; obtain ⟨d, e1, r⟩ := this; rw [e1]; exact ⟨d, rfl, r⟩
  | ex x s1 => rw [z] at this; obtain ⟨σ1, e1⟩ := this; rw [e1]; exact rfl
  | bk v s1 => trivial
  | ct v s1 => trivial
  | bad => trivial
theorem fnU_ok {b : B τ Unit} {π : List Pt} {np ns : Nat} {ds : List D} {s : Sto} (hl : ds.length = np) (M : Mt π (ds.map some ++ List.replicate (ns - np) none)) (h : TS π body π' .pl eN b) : Rf .pl eN (fnU b s) (mkFn np ns body ds s) := by
  have := h _ s M
  unfold fnU mkFn
  rw [if_pos hl]
  cases z : b s with
  | nx v s1 => rw [z] at this; obtain ⟨d, e1, r⟩ := this; rw [e1]; exact ⟨.non, rfl, rfl, rfl⟩
  | rt r s1 => rw [z] at this; obtain ⟨d, e1, r⟩ := this; rw [e1]; exact ⟨d, rfl, r⟩
  | ex x s1 => rw [z] at this; obtain ⟨σ1, e1⟩ := this; rw [e1]; exact rfl
  | bk v s1 => trivial
  | ct v s1 => trivial
  | bad => trivial
end
end Zm
set_option linter.all false
set_option autoImplicit false
set_option maxRecDepth 100000
/-! TL4: operations. -/
namespace Zm
open PySem
/-! ### pure arguments -/
def TPA {α : Type} (π : List Pt) (ms : List M) (K : Sto → List D → Option D) (k : Kd) (e : Ec α) (x : α) : Prop := ∀ σ s, Mt π σ → ∃ ds d, mArgs ms σ s = .ok ds s ∧ K s ds = some d ∧ Rp k e x d
section
variable {α β γ : Type} {π : List Pt} {m : M} {ms : List M} {k ka kb kc : Kd} {e : Ec α} {ea : Ec β} {eb : Ec γ} {x : α} {g : Sto → List D → Option D} {d d' : D} {ds : List D}
theorem pa_nil {K : Sto → List D → Option D} (h : ∀ s, ∃ d, K s [] = some d ∧ Rp k e x d) : TPA π [] K k e x := fun σ s M => let ⟨d, h1, h2⟩ := h s; ⟨[], d, rfl, h1, h2⟩
theorem pa {K : Sto → List D → Option D} {y : β} (h : TP π m ka ea y) (q : ∀ d, Rp ka ea y d → TPA π ms (fun s ds => K s (d :: ds)) k e x) : TPA π (m :: ms) K k e x := fun σ s M => by
  obtain ⟨d, e1, r1⟩ := h σ s M
  obtain ⟨ds, z, e2, e3, r⟩ := q d r1 σ s M
  exact ⟨d :: ds, z, by simp only [mArgs, e1, e2, R.bind_ok], e3, r⟩
theorem tp_op (h : TPA π ms g k e x) : TP π (mOp g ms) k e x := fun σ s M => by
  obtain ⟨ds, z, e2, e3, r⟩ := h σ s M
  exact ⟨z, by simp [e2, e3], r⟩
/-! ### numbers -/
theorem rpI (i : Int) : Rp .pl eI i (.int i) := ⟨rfl, rfl⟩
theorem rpB (i : Bool) : Rp .pl eB i (.bl i) := ⟨rfl, rfl⟩
theorem x_addI {x y : Int} (h : Rp ka eI x d) (h' : Rp kb eI y d') : OkP gAdd [d, d'] .pl eI (x + y) := fun s => ⟨_, by rw [h.int, h'.int]; rfl, rpI _⟩
theorem x_sub {x y : Int} (h : Rp ka eI x d) (h' : Rp kb eI y d') : OkP gSub [d, d'] .pl eI (x - y) := fun s => ⟨_, by rw [h.int, h'.int]; rfl, rpI _⟩
theorem x_neg {x : Int} (h : Rp ka eI x d) : OkP gNeg [d] .pl eI (-x) := fun s => ⟨_, by rw [h.int]; rfl, rpI _⟩
theorem x_max2 {x y : Int} (h : Rp ka eI x d) (h' : Rp kb eI y d') : OkP gMax2 [d, d'] .pl eI (max x y) := fun s => ⟨_, by rw [h.int, h'.int]; rfl, by
  have : (if y > x then y else x) = max x y := by omega
  rw [this]; exact rpI _⟩
theorem x_min2 {x y : Int} (h : Rp ka eI x d) (h' : Rp kb eI y d') : OkP gMin2 [d, d'] .pl eI (min x y) := fun s => ⟨_, by rw [h.int, h'.int]; rfl, by
  have : (if y < x then y else x) = min x y := by omega
  rw [this]; exact rpI _⟩
theorem x_lt {x y : Int} (h : Rp ka eI x d) (h' : Rp kb eI y d') : OkP gLt [d, d'] .pl eB (decide (x < y)) := fun s => ⟨_, by rw [h.int, h'.int]; rfl, rpB _⟩
theorem x_gt {x y : Int} (h : Rp ka eI x d) (h' : Rp kb eI y d') : OkP gGt [d, d'] .pl eB (decide (y < x)) := fun s => ⟨_, by rw [h.int, h'.int]; rfl, rpB _⟩
theorem x_ge {x y : Int} (h : Rp ka eI x d) (h' : Rp kb eI y d') : OkP gGe [d, d'] .pl eB (decide (y ≤ x)) := fun s => ⟨_, by rw [h.int, h'.int]; rfl, rpB _⟩
@[irreducible] def mulT (x y : Int) : G Int := fun s => if sm x = true ∧ sm y = true then .ok (x * y) s else .bad
@[irreducible] def divT (x y : Int) : G Int := fun s => if 0 < y ∧ sm y = true then .ok (x / y) s else .bad
@[irreducible] def modT (x y : Int) : G Int := fun s => if 0 < y then .ok (x % y) s else .bad
@[irreducible] def powT (x y : Int) : G Int := fun s => if 0 ≤ y ∧ y ≤ 1000 ∧ sm x = true then .ok (x ^ y.toNat) s else .bad
/-- an operation that may fail -/
def OkE {α : Type} (g : Sto → List D → Option D) (ds : List D) (k : Kd) (e : Ec α) (t : G α) : Prop := ∀ s, Rf k e (t s) (R.of (g s ds) s)
theorem x_mul {x y : Int} (h : Rp ka eI x d) (h' : Rp kb eI y d') : OkE gMul [d, d'] .pl eI (mulT x y) := fun s => by
  rw [h.int, h'.int]; simp only [mulT, gMul]
  split
  · exact ⟨_, rfl, rpI _⟩
  · trivial
theorem x_pow {x y : Int} (h : Rp ka eI x d) (h' : Rp kb eI y d') : OkE gPow [d, d'] .pl eI (powT x y) := fun s => by
  rw [h.int, h'.int]; simp only [powT, gPow]
  split
  · exact ⟨_, rfl, rpI _⟩
  · trivial
/-! ### displays -/
inductive RpL {α : Type} (k : Kd) (e : Ec α) : List α → List D → Prop
  | nil : RpL k e [] []
  | cons {x : α} {xs : List α} {d : D} {ds : List D} : Rp k e x d → RpL k e xs ds → RpL k e (x :: xs) (d :: ds)
theorem RpL.fzs {xs : List α} (h : RpL k e xs ds) : fzs ds = xs.map e.f := by
  induction h with
  | nil => rfl
  | cons r _ ih => rw [Zm.fzs, ih, r.1]; rfl
theorem RpL.noF {xs : List α} (h : RpL .own e xs ds) : noFs ds = true := by
  induction h with
  | nil => rfl
  | cons r _ ih => simp [ih, r.2]
theorem RpL.plO {xs : List α} (h : RpL .pl e xs ds) : RpL .own e xs ds := by
  induction h with
  | nil => exact .nil
  | cons r _ ih => exact .cons r.plO ih
theorem RpL.len {xs : List α} (h : RpL k e xs ds) : ds.length = xs.length := rp_len h.fzs
theorem le_sz {n : Nat} (h : Nat.ble n 1000 = true) : n ≤ sizeLine := Nat.le_trans (Nat.le_of_ble_eq_true h) (by decide)
theorem x_lstO {xs : List α} (h : RpL .own e xs ds) (hl : Nat.ble ds.length 1000 = true := by rfl) : OkP gLst ds .own (eL e) xs := fun s => ⟨_, by unfold Zm.gLst; rw [if_pos (le_sz hl)], rp_own h.fzs h.noF⟩
theorem x_lstP {xs : List α} (h : RpL .pl e xs ds) (hl : Nat.ble ds.length 1000 = true := by rfl) : OkP gLst ds .own (eL e) xs := x_lstO h.plO hl
theorem x_lstA {xs : List α} (h : RpL k e xs ds) (hl : Nat.ble ds.length 1000 = true := by rfl) : OkP gLst ds .top (eL e) xs := fun s => ⟨_, by unfold Zm.gLst; rw [if_pos (le_sz hl)], rp_top h.fzs⟩
theorem x_tup {xs : List α} (h : RpL k e xs ds) (hl : Nat.ble ds.length 1000 = true := by rfl) : OkP Zm.gTup ds .any (eT e) xs := fun s => ⟨_, by unfold Zm.gTup; rw [if_pos (le_sz hl)], rp_tup h.fzs⟩
theorem rp_pair {y : β} (h : Rp ka e x d) (h' : Rp kb ea y d') : Rp .any (eP e ea) (x, y) (.tup [d, d']) := ⟨by simp [eP, h.1, h'.1], trivial⟩
theorem x_pair {y : β} (h : Rp ka e x d) (h' : Rp kb ea y d') : OkP Zm.gTup [d, d'] .any (eP e ea) (x, y) := fun s => ⟨_, by unfold Zm.gTup; rw [if_pos (by show 2 ≤ sizeLine; decide)], rp_pair h h'⟩
theorem x_tri {y : β} {z : γ} {d2 : D} (h : Rp ka e x d) (h' : Rp kb ea y d') (h2 : Rp kc eb z d2) : OkP Zm.gTup [d, d', d2] .any (eP3 e ea eb) (x, y, z) := fun s => ⟨_, by unfold Zm.gTup; rw [if_pos (by show 3 ≤ sizeLine; decide)], ⟨by simp [eP3, h.1, h'.1, h2.1], trivial⟩⟩
/-! ### rows: length, places, slices, put together -/
theorem x_lenL {xs : List α} (h : Rp ka (eL e) xs d) : OkP gLen [d] .pl eI (xs.length : Int) := fun s => by
  obtain ⟨o, ds, rfl, q⟩ := h.lst
  exact ⟨_, rfl, by rw [rp_len q]; exact rpI _⟩
theorem x_lenT {xs : List α} (h : Rp ka (eT e) xs d) : OkP gLen [d] .pl eI (xs.length : Int) := fun s => by
  obtain ⟨ds, rfl, q⟩ := h.tup
  exact ⟨_, rfl, by rw [rp_len q]; exact rpI _⟩
theorem x_lenR {xs : List Int} (h : Rp ka eRo xs d) : OkP gLen [d] .pl eI (xs.length : Int) := fun s => by
  rw [h.ro]; exact ⟨_, rfl, rpI _⟩
@[irreducible] def ixT {α : Type} (xs : List α) (i : Int) : G α := fun s => match L2.atI xs i with
  | some x => .ok x s
  | none => .bad
def Kd.el : Kd → Kd
  | .top => .any
  | k => k
theorem atI_fzs {xs : List α} {ds : List D} (q : fzs ds = xs.map e.f) {i : Int} {x : α} (h : L2.atI xs i = some x) : ∃ d, L2.atI ds i = some d ∧ fz d = e.f x ∧ d ∈ ds := by
  have hl := rp_len q
  unfold L2.atI at h ⊢
  rw [hl]
  cases z : L2.ixN xs.length i with
  | none => rw [z] at h; cases h
  | some j =>
    rw [z] at h
    have h : xs[j]? = some x := h
    have hj := (List.getElem?_eq_some_iff.mp h).1
    refine ⟨ds[j]'(by omega), List.getElem?_eq_getElem (by omega), ?_, List.getElem_mem _⟩
    have := congrArg (fun l => l[j]?) q
    simp only [fzs_eq, List.getElem?_map, h, Option.map_some] at this
    rw [List.getElem?_eq_getElem (by omega)] at this
    simpa using this
theorem plains_mem {ds : List D} {d : D} (h : plains ds = true) (hd : d ∈ ds) : plain d = true := plains_iff.mp h d hd
theorem noFs_mem {ds : List D} {d : D} (h : noFs ds = true) (hd : d ∈ ds) : noF d = true := noFs_iff.mp h d hd
theorem mem_fro {xs : List α} {ds : List D} {d : D} (q : fzs ds = ds) (hd : d ∈ ds) : fz d = d := by
  rw [fzs_eq] at q
  obtain ⟨j, hj, rfl⟩ := List.getElem_of_mem hd
  have := congrArg (fun l => l[j]?) q
  simp only [List.getElem?_map, List.getElem?_eq_getElem hj] at this
  simpa using this
theorem rp_elL : ∀ {k : Kd} {xs : List α} {d : D} {i : Int} {x : α}, Rp k (eL e) xs d → L2.atI xs i = some x → ∀ s, ∃ z, gIx s [d, .int i] = some z ∧ Rp k.el e x z := fun {k xs d i x} h hx s => by
  obtain ⟨o, ds, rfl, q⟩ := h.lst
  obtain ⟨z, h1, h2, h3⟩ := atI_fzs q hx
  refine ⟨z, h1, h2, ?_⟩
  cases k with
  | any => trivial
  | top => trivial
  | own => have := h.2; simp only [noF, Bool.and_eq_true] at this; exact noFs_mem this.2 h3
  | fro =>
    have : D.lst o ds = .lst false (xs.map e.f) := h.2
    simp only [D.lst.injEq] at this
    have q2 : fzs ds = ds := by rw [q]; exact this.2.symm
    show z = e.f x
    rw [← h2, mem_fro (xs := xs) q2 h3]
  | pl => have := h.2; simp at this
theorem rp_elT : ∀ {k : Kd} {xs : List α} {d : D} {i : Int} {x : α}, Rp k (eT e) xs d → L2.atI xs i = some x → ∀ s, ∃ z, gIx s [d, .int i] = some z ∧ Rp k.el e x z := fun {k xs d i x} h hx s => by
  obtain ⟨ds, rfl, q⟩ := h.tup
  obtain ⟨z, h1, h2, h3⟩ := atI_fzs q hx
  refine ⟨z, h1, h2, ?_⟩
  cases k with
  | any => trivial
  | top => trivial
  | own => have := h.2; simp only [noF] at this; exact noFs_mem this h3
  | fro =>
    have : D.tup ds = .tup (xs.map e.f) := h.2
    simp only [D.tup.injEq] at this
    have q2 : fzs ds = ds := by rw [q]; exact this.symm
    show z = e.f x
    rw [← h2, mem_fro (xs := xs) q2 h3]
  | pl => have := h.2; simp only [plain] at this; exact plains_mem this h3
theorem x_ixL {xs : List α} {i : Int} (h : Rp ka (eL e) xs d) (h' : Rp kb eI i d') : OkE gIx [d, d'] ka.el e (ixT xs i) := fun s => by
  unfold ixT
  cases z : L2.atI xs i with
  | none => trivial
  | some x => obtain ⟨w, h1, h2⟩ := rp_elL h z s; rw [h'.int, h1]; exact ⟨w, rfl, h2⟩
theorem x_ixT {xs : List α} {i : Int} (h : Rp ka (eT e) xs d) (h' : Rp kb eI i d') : OkE gIx [d, d'] ka.el e (ixT xs i) := fun s => by
  unfold ixT
  cases z : L2.atI xs i with
  | none => trivial
  | some x => obtain ⟨w, h1, h2⟩ := rp_elT h z s; rw [h'.int, h1]; exact ⟨w, rfl, h2⟩
theorem x_ixR {xs : List Int} {i : Int} (h : Rp ka eRo xs d) (h' : Rp kb eI i d') : OkE gIx [d, d'] .pl eI (ixT xs i) := fun s => by
  unfold ixT
  cases z : L2.atI xs i with
  | none => trivial
  | some x => rw [h.ro, h'.int]; simp only [gIx, z]; exact ⟨_, rfl, rpI _⟩
theorem x_p1 {p : α × β} (h : Rp ka (eP e ea) p d) (h' : Rp kb eI 1 d') : OkP gIx [d, d'] .any ea p.2 := fun s => by
  obtain ⟨x, y, rfl, h1, h2⟩ := h.pair
  exact ⟨y, by rw [h'.int]; rfl, h2, trivial⟩
theorem cut_map {α β : Type} (f : α → β) (xs : List α) (lo hi : Option Int) : cutD (xs.map f) lo hi = (cutD xs lo hi).map f := by
  unfold cutD; simp [List.map_take, List.map_drop]
theorem cut_fzs {xs : List α} (q : fzs ds = xs.map e.f) (lo hi : Option Int) : fzs (cutD ds lo hi) = (cutD xs lo hi).map e.f := by
  rw [fzs_eq] at q ⊢; rw [← cut_map, q, cut_map]
theorem rp_slT {xs : List α} (h : Rp ka (eT e) xs d) (lo hi : Option Int) : ∃ z, gSlW d lo hi = some z ∧ Rp .any (eT e) (cutD xs lo hi) z := by
  obtain ⟨ds, rfl, q⟩ := h.tup
  exact ⟨_, rfl, rp_tup (cut_fzs q lo hi)⟩
theorem x_sl10T {xs : List α} {i : Int} (h : Rp ka (eT e) xs d) (h' : Rp kb eI i d') : OkP gSl10 [d, d'] .any (eT e) (cutD xs (some i) none) := fun s => by rw [h'.int]; exact rp_slT h _ _
theorem x_sl01T {xs : List α} {i : Int} (h : Rp ka (eT e) xs d) (h' : Rp kb eI i d') : OkP gSl01 [d, d'] .any (eT e) (cutD xs none (some i)) := fun s => by rw [h'.int]; exact rp_slT h _ _
theorem fzs_rev {xs : List α} (q : fzs ds = xs.map e.f) : fzs ds.reverse = xs.reverse.map e.f := by
  rw [fzs_eq] at q ⊢; rw [List.map_reverse, q, List.map_reverse]
theorem x_revP [Pn e] {xs : List α} (h : Rp ka (eL e) xs d) : OkP gRevS [d] .own (eL e) xs.reverse := fun s => by
  obtain ⟨o, ds, rfl, q⟩ := h.lst
  exact ⟨_, rfl, rp_own (fzs_rev q) (noFs_pn (fzs_rev q))⟩
/-- one behind the other -/
@[irreducible] def catT {α : Type} (xs ys : List α) : G (List α) := fun s => if xs.length + ys.length ≤ sizeLine then .ok (xs ++ ys) s else .bad
theorem fzs_cat {xs ys : List α} {ds es : List D} (q : fzs ds = xs.map e.f) (q' : fzs es = ys.map e.f) : fzs (ds ++ es) = (xs ++ ys).map e.f := by
  rw [fzs_eq] at q q' ⊢; rw [List.map_append, q, q', List.map_append]
theorem x_catL {xs ys : List α} (h : Rp ka (eL e) xs d) (h' : Rp kb (eL e) ys d') : OkE gAdd [d, d'] .top (eL e) (catT xs ys) := fun s => by
  obtain ⟨o, ds, rfl, q⟩ := h.lst
  obtain ⟨o', ds', rfl, q'⟩ := h'.lst
  have h1 := rp_len q
  have h2 := rp_len q'
  unfold catT
  split
  · exact ⟨.lst true (ds ++ ds'), by simp only [gAdd]; rw [if_pos (by omega)]; rfl, rp_top (fzs_cat q q')⟩
  · trivial
theorem x_catP [Pn e] {xs ys : List α} (h : Rp ka (eL e) xs d) (h' : Rp kb (eL e) ys d') : OkE gAdd [d, d'] .own (eL e) (catT xs ys) := fun s => by
  obtain ⟨o, ds, rfl, q⟩ := h.lst
  obtain ⟨o', ds', rfl, q'⟩ := h'.lst
  have h1 := rp_len q
  have h2 := rp_len q'
  unfold catT
  split
  · exact ⟨.lst true (ds ++ ds'), by simp only [gAdd]; rw [if_pos (by omega)]; rfl, rp_own (fzs_cat q q') (noFs_pn (fzs_cat q q'))⟩
  · trivial
theorem x_catT {xs ys : List α} (h : Rp ka (eT e) xs d) (h' : Rp kb (eT e) ys d') : OkE gAdd [d, d'] .any (eT e) (catT xs ys) := fun s => by
  obtain ⟨ds, rfl, q⟩ := h.tup
  obtain ⟨ds', rfl, q'⟩ := h'.tup
  have h1 := rp_len q
  have h2 := rp_len q'
  unfold catT
  split
  · exact ⟨.tup (ds ++ ds'), by simp only [gAdd]; rw [if_pos (by omega)]; rfl, rp_tup (fzs_cat q q')⟩
  · trivial
@[irreducible] def catS (x y : Str) : G Str := fun s => if x.length + y.length ≤ sizeLine then .ok (x ++ y) s else .bad
theorem x_catS {x y : Str} (h : Rp ka eS x d) (h' : Rp kb eS y d') : OkE gAdd [d, d'] .pl eS (catS x y) := fun s => by
  rw [h.str, h'.str]; simp only [catS, gAdd]
  split
  · exact ⟨_, rfl, rfl, rfl⟩
  · trivial
/-- [x] * k, (..) * k -/
@[irreducible] def repT {α : Type} (x : α) (k : Int) : G (List α) := fun s => if 0 ≤ k ∧ k ≤ 1000 then .ok (List.replicate k.toNat x) s else .bad
@[irreducible] def repsT {α : Type} (xs : List α) (k : Int) : G (List α) := fun s => if k = 1 then .ok xs s else if xs ≠ [] ∧ 2 ≤ k ∧ k ≤ 1000 ∧ xs.length ≤ 1000 then .ok (List.replicate k.toNat xs).flatten s else .bad
theorem x_rep [Pn e] {x : α} {j : Int} (h : Rp ka (eL e) [x] d) (h' : Rp kb eI j d') : OkE gMul [d, d'] .own (eL e) (repT x j) := fun s => by
  obtain ⟨o, ds, rfl, q⟩ := h.lst
  have hl := rp_len q
  match ds, hl, q with
  | [z], _, q =>
    have q : fz z = e.f x := by simpa using q
    have pz : plain z = true := fz_plain _ (by rw [q]; exact Pn.p x)
    rw [h'.int]
    unfold repT
    simp only [gMul]
    split
    · rename_i hj
      rw [if_pos ⟨pz, hj⟩]
      have : fzs (List.replicate j.toNat z) = (List.replicate j.toNat x).map e.f := by rw [fzs_eq]; simp [q]
      exact ⟨_, rfl, rp_own this (noFs_pn this)⟩
    · trivial
  | [], hl, _ => simp at hl
  | _ :: _ :: _, hl, _ => simp at hl
theorem x_reps [Pn e] {xs : List α} {j : Int} (h : Rp ka (eT e) xs d) (h' : Rp kb eI j d') : OkE gMulT [d, d'] .any (eT e) (repsT xs j) := fun s => by
  obtain ⟨ds, rfl, q⟩ := h.tup
  have hl := rp_len q
  have pz : plains ds = true := fzs_plains _ (by rw [q, plains_iff]; intro d hd; obtain ⟨x, _, rfl⟩ := List.mem_map.mp hd; exact Pn.p x)
  rw [h'.int]
  unfold repsT
  simp only [gMulT]
  split
  · exact ⟨_, rfl, rp_tup q⟩
  · simp only [gMul]
    split
    · rename_i hj
      have nn : ds ≠ [] := fun z => by subst z; apply hj.1; exact List.eq_nil_of_length_eq_zero hl.symm
      rw [if_pos ⟨pz, nn, hj.2.1, hj.2.2.1, by omega⟩]
      refine ⟨_, rfl, rp_tup ?_⟩
      rw [fzs_eq] at q ⊢
      simp [List.map_flatten, q]
    · trivial
theorem x_listTP [Pn e] {xs : List α} (h : Rp ka (eT e) xs d) : OkP gList [d] .own (eL e) xs := fun s => by
  obtain ⟨ds, rfl, q⟩ := h.tup
  exact ⟨_, rfl, rp_own q (noFs_pn q)⟩
theorem x_tupL {xs : List α} (h : Rp ka (eL e) xs d) : OkP gTuple [d] .any (eT e) xs := fun s => by
  obtain ⟨o, ds, rfl, q⟩ := h.lst
  exact ⟨_, rfl, rp_tup q⟩
/-- rows of numbers -/
theorem ints_of {xs : List Int} : ∀ {ds : List D}, fzs ds = xs.map D.int → ds = xs.map D.int := fun {ds} h => by
  have : plains ds = true := fzs_plains _ (by rw [h]; exact plain_ints xs)
  rw [← h]; exact (plains_fz _ this).symm
theorem toInts_ok : ∀ xs : List Int, toInts (xs.map D.int) = some xs
  | [] => rfl
  | x :: xs => by rw [List.map_cons, toInts, toInts_ok xs]; rfl
theorem x_sumT {xs : List Int} (h : Rp ka (eT eI) xs d) : OkP gSumA [d] .pl eI xs.sum := fun s => by
  obtain ⟨ds, rfl, q⟩ := h.tup
  rw [ints_of q]
  exact ⟨_, by simp only [gSumA, gSum, intsIn, gSumT, toInts_ok]; rfl, rpI _⟩
@[irreducible] def maxT (xs : List Int) : G Int := fun s => match xs with
  | x :: xs => .ok (xs.foldl max x) s
  | [] => .bad
@[irreducible] def minT (xs : List Int) : G Int := fun s => match xs with
  | x :: xs => .ok (xs.foldl min x) s
  | [] => .bad
theorem maxT_cons {x : Int} {xs : List Int} {s : Sto} : maxT (x :: xs) s = .ok (xs.foldl max x) s := by unfold maxT; rfl
theorem maxT_nil {s : Sto} : maxT [] s = .bad := by unfold maxT; rfl
theorem maxI_eq : ∀ (xs : List Int) (x : Int), maxI x xs = xs.foldl max x
  | [], _ => rfl
  | y :: xs, x => by
    show maxI (if x < y then y else x) xs = _
    rw [maxI_eq xs, List.foldl_cons]
    congr 1
    omega
theorem x_maxL {xs : List Int} (h : Rp ka (eL eI) xs d) : OkE gMaxA [d] .pl eI (maxT xs) := fun s => by
  obtain ⟨o, ds, rfl, q⟩ := h.lst
  rw [ints_of q]
  cases xs with
  | nil => rw [maxT_nil]; trivial
  | cons x xs => rw [maxT_cons]; exact ⟨_, by simp only [gMaxA, gMaxL, intsIn, toInts_ok, Option.bind_some, maxI_eq]; rfl, rpI _⟩
/-! ### None -/
class NotN {α : Type} (e : Ec α) : Prop where
  nn : ∀ x, isNon (e.f x) = false
instance : NotN eI := ⟨fun _ => rfl⟩
instance : NotN eB := ⟨fun _ => rfl⟩
instance : NotN eS := ⟨fun _ => rfl⟩
instance : NotN eRo := ⟨fun _ => rfl⟩
instance : NotN (eL e) := ⟨fun _ => rfl⟩
instance : NotN (eT e) := ⟨fun _ => rfl⟩
instance : NotN (eP e ea) := ⟨fun _ => rfl⟩
instance : NotN (eP3 e ea eb) := ⟨fun _ => rfl⟩
/-- what is not none -/
@[irreducible] def getT {α : Type} (o : Option α) : G α := fun s => match o with
  | some x => .ok x s
  | none => .bad
/-! ### alike -/
class Cm {α : Type} (e : Ec α) where
  py : α → PyData
  n : Nat
  hp : ∀ x, pd (e.f x) = some (py x)
  lay : ∀ x, (py x).canLay0 = true
  dep : ∀ x, (py x).depth ≤ n
  inj : ∀ x y, PyData.eqv (py x) (py y) = true → x = y
instance : Cm eI := ⟨.int, 1, fun _ => rfl, fun _ => rfl, fun _ => by simp [PyData.depth], fun x y h => by simpa [PyData.eqv] using h⟩
instance : Cm eB := ⟨.bool, 1, fun _ => rfl, fun _ => rfl, fun _ => by simp [PyData.depth], fun x y h => by simpa [PyData.eqv] using h⟩
theorem lays_map {f : α → PyData} (h : ∀ x, (f x).canLay0 = true) : ∀ xs : List α, PyData.canLayAll0 (xs.map f) = true
  | [] => by simp [PyData.canLayAll0]
  | x :: xs => by simp [PyData.canLayAll0, h x, lays_map h xs]
theorem eqvs_map {f : α → PyData} (h : ∀ x y, PyData.eqv (f x) (f y) = true → x = y) : ∀ xs ys : List α, PyData.eqvAll (xs.map f) (ys.map f) = true → xs = ys
  | [], [], _ => rfl
  | x :: xs, y :: ys, e => by
    simp only [List.map_cons, PyData.eqvAll, Bool.and_eq_true] at e
    rw [h x y e.1, eqvs_map h xs ys e.2]
  | [], _ :: _, e => by simp [PyData.eqvAll] at e
  | _ :: _, [], e => by simp [PyData.eqvAll] at e
instance [c : Cm e] : Cm (eL e) := ⟨fun xs => .list (xs.map c.py), c.n + 1, fun xs => by
    show (pds (xs.map e.f)).map _ = _
    rw [pds_map c.hp]; rfl, fun xs => by simp only [PyData.canLay0]; exact lays_map c.lay xs, fun xs => by rw [PyData.depth]; have := depth_map c.dep xs; omega,
  fun xs ys h => by simp only [PyData.eqv] at h; exact eqvs_map c.inj xs ys h⟩
instance [c : Cm e] : Cm (eT e) := ⟨fun xs => .tuple (xs.map c.py), c.n + 1, fun xs => by
    show (pds (xs.map e.f)).map _ = _
    rw [pds_map c.hp]; rfl, fun xs => by simp only [PyData.canLay0]; exact lays_map c.lay xs, fun xs => by rw [PyData.depth]; have := depth_map c.dep xs; omega,
  fun xs ys h => by simp only [PyData.eqv] at h; exact eqvs_map c.inj xs ys h⟩
instance [c : Cm e] [c' : Cm ea] : Cm (eP e ea) := ⟨fun p => .tuple [c.py p.1, c'.py p.2], max c.n c'.n + 1, fun p => by
    show (pds [e.f p.1, ea.f p.2]).map _ = _
    simp [pds, c.hp, c'.hp], fun p => by simp [PyData.canLay0, PyData.canLayAll0, c.lay, c'.lay], fun p => by
    have := c.dep p.1
    have := c'.dep p.2
    simp only [PyData.depth, PyData.depthAll]; omega,
  fun p q h => by
    simp only [PyData.eqv, PyData.eqvAll, Bool.and_eq_true] at h
    exact Prod.ext (c.inj _ _ h.1) (c'.inj _ _ h.2.1)⟩
theorem pd_non {d : D} (h : pd d = some .none) : isNon d = true := by
  cases d <;> simp [pd] at h <;> first | rfl | (obtain ⟨_, _, h⟩ := h; cases h)
theorem eqv_non {y : PyData} (h : PyData.eqv y .none = true ∨ PyData.eqv .none y = true) : y = .none := by
  cases y <;> simp_all [PyData.eqv]
instance [c : Cm e] [NotN e] : Cm (eO e) := ⟨fun o => match o with
    | none => .none
    | some x => c.py x, max c.n 1, fun o => by cases o with
    | none => rfl
    | some x => exact c.hp x, fun o => by cases o with
    | none => rfl
    | some x => exact c.lay x, fun o => by cases o with
    | none => simp only [PyData.depth]; omega
    | some x => have := c.dep x; show (c.py x).depth ≤ _; omega,
  fun o p h => by
    have key : ∀ x, c.py x ≠ .none := fun x z => by
      have := c.hp x
      rw [z] at this
      have := pd_non this
      rw [NotN.nn] at this; cases this
    cases o with
    | none => cases p with
      | none => rfl
      | some y => have h : PyData.eqv .none (c.py y) = true := h; exact (key y (eqv_non (.inr h))).elim
    | some x => cases p with
      | none => have h : PyData.eqv (c.py x) .none = true := h; exact (key x (eqv_non (.inl h))).elim
      | some y => rw [c.inj x y h]⟩
theorem Cm.sh [c : Cm e] (hn : c.n ≤ 64) (h : Rp k e x d) : shapedD d = some (c.py x) := by
  unfold shapedD
  rw [← pd_fz, h.1, c.hp]
  have : SeqAt.shaped (c.py x) = true := Bool.and_eq_true_iff.mpr ⟨c.lay x, decide_eq_true (Nat.le_trans (c.dep x) hn)⟩
  simp only [this, if_true]
theorem Cm.eqv [DecidableEq α] [c : Cm e] (x y : α) : PyData.eqv (c.py x) (c.py y) = decide (x = y) := by
  by_cases h : x = y
  · subst h; simp [SeqAt.eqv_refl _ (c.lay x)]
  · rw [decide_eq_false h]
    cases z : PyData.eqv (c.py x) (c.py y) with
    | false => rfl
    | true => exact (h (c.inj x y z)).elim
theorem x_eq [DecidableEq α] [c : Cm e] {y : α} (h : Rp ka e x d) (h' : Rp kb e y d') (hn : c.n ≤ 64 := by decide) : OkP gEq [d, d'] .pl eB (decide (x = y)) := fun s =>
  ⟨_, by simp only [gEq, Cm.sh hn h, Cm.sh hn h', Cm.eqv], rpB _⟩
/-- of whatever kinds -/
@[irreducible] def eqX (a b : D) : G Bool := fun s => match gEq s [a, b] with
  | some (.bl z) => .ok z s
  | _ => .bad
@[irreducible] def neX (a b : D) : G Bool := fun s => match gNe s [a, b] with
  | some (.bl z) => .ok z s
  | _ => .bad
theorem sh_fz (d : D) : shapedD (fz d) = shapedD d := by unfold shapedD; rw [pd_fz]
theorem x_neX {y : β} (h : Rp ka e x d) (h' : Rp kb ea y d') : OkE gNe [d, d'] .pl eB (neX (e.f x) (ea.f y)) := fun s => by
  have : gNe s [e.f x, ea.f y] = gNe s [d, d'] := by rw [← h.1, ← h'.1]; simp only [gNe, sh_fz]
  unfold neX
  rw [this]
  cases gNe s [d, d'] with
  | none => trivial
  | some z => cases z with
    | bl b => exact ⟨_, rfl, rpB _⟩
    | _ => trivial
/-! ### writing -/
@[irreducible] def reprX (a : D) : G Str := fun s => match gRepr s [a] with
  | some (.str z) => .ok z s
  | _ => .bad
@[irreducible] def strT (i : Int) : G Str := fun s => if sm i = true then .ok (toString i) s else .bad
theorem x_str {x : Int} (h : Rp ka eI x d) : OkE gStr [d] .pl eS (strT x) := fun s => by
  rw [h.int]; simp only [strT, gStr]
  split
  · exact ⟨_, rfl, rfl, rfl⟩
  · trivial
end
end Zm
namespace Zm
section
variable {α β : Type} {π : List Pt} {m : M} {k : Kd} {e : Ec α} {o : Option α} {t : G (Option α)}
@[simp] theorem getT_some {x : α} {s : Sto} : getT (some x) s = .ok x s := by unfold getT; rfl
@[simp] theorem getT_none {s : Sto} : getT (none : Option α) s = .bad := by unfold getT; rfl
theorem rp_get : ∀ {k : Kd} {x : α} {d : D}, Rp k (eO e) (some x) d → Rp k e x d
  | .any, _, _, h => ⟨h.1, trivial⟩
  | .top, _, _, h => ⟨h.1, h.2⟩
  | .own, _, _, h => ⟨h.1, h.2⟩
  | .fro, _, _, h => ⟨h.1, h.2⟩
  | .pl, _, _, h => ⟨h.1, h.2⟩
theorem TP.lst {e : Ec β} {x : List β} (h : TP π m .own (eL e) x) : TP π m .top (eL e) x := fun σ s M => let ⟨d, q, r⟩ := h σ s M; ⟨d, q, r.ownT⟩
end
theorem at_ {τ ρ : Type} (π : List Pt) {π0 : List Pt} {a : MS} {π' : τ → List Pt} {kr : Kd} {er : Ec ρ} {tr : B τ ρ} (h : TS π a π' kr er tr) (e : π0 = π := by rfl) : TS π0 a π' kr er tr := e ▸ h
theorem wk_nos : ∀ {π : List Pt}, Wk π (nosP π.length)
  | [] => wk_nil
  | _ :: _ => wk_no wk_nos
theorem ts_end {ρ : Type} {π : List Pt} {kr : Kd} {er : Ec ρ} {n : Nat} (h : π.length = n := by rfl) : TS π mNil (fun _ : Unit => nosP n) kr er (nxB ()) := ts_nil (by subst h; exact wk_nos)
end Zm
namespace Zm
section
variable {α : Type} {π : List Pt} {m : M} {k : Kd} {e : Ec α} {x : α} {t : G α}
theorem rp_xf {d : D} (h : Rp .fro e x d) : Rp .fro eX (e.f x) d := ⟨by show _ = fz (e.f x); rw [e.h]; exact h.1, by show d = fz (e.f x); rw [e.h]; exact h.2⟩
theorem rp_xp {d : D} (h : Rp .pl e x d) : Rp .fro eX (e.f x) d := rp_xf ⟨h.1, h.plE⟩
theorem TP.asXp (h : TP π m .pl e x) : TP π m .fro eX (e.f x) := fun σ s M => let ⟨d, q, r⟩ := h σ s M; ⟨d, q, rp_xp r⟩
theorem TE.asXp (h : TE π m .pl e t) : TE π m .fro eX (bd t fun x => pr (e.f x)) := fun σ s M => by
  have := h σ s M
  unfold bd
  cases q : t s with
  | ok x s1 => rw [q] at this; obtain ⟨d, h1, h2⟩ := this; exact ⟨d, h1, rp_xp h2⟩
  | ex x s1 => rw [q] at this; exact this
  | bad => trivial
end
end Zm
theorem Zm.Rp.froX {x d : Zm.D} (h : Zm.Rp .fro Zm.eX x d) : d = Zm.fz x := h.2
set_option Elab.async false
set_option linter.all false
set_option maxRecDepth 100000
set_option autoImplicit false
/-! TL5: typed: calls by keywords. -/
namespace Zm
open PySem
section
variable {α : Type} {π : List Pt} {ms : List M} {k : Kd} {e : Ec α} {t : G α}
end
end Zm
set_option Elab.async false
set_option linter.all false
set_option maxRecDepth 100000
set_option autoImplicit false
/-! TL6: typed: dicts. -/
namespace Zm
open PySem PySem.Spec PyProof.Rows L2
section
variable {κ β : Type} [DecidableEq κ]
def dlook : List (κ × β) → κ → Option β
  | [], _ => none
  | p :: l, k => if p.1 = k then some p.2 else dlook l k
def dput (l : List (κ × β)) (k : κ) (v : β) : List (κ × β) := if (dlook l k).isSome = true then l.map (fun p => if p.1 = k then (p.1, v) else p) else l ++ [(k, v)]
end
def eDic {κ β : Type} (t : Bool) (ek : Ec κ) (ev : Ec β) : Ec (List (κ × β)) := ⟨fun l => .dic false t (l.map fun p => ek.f p.1) (l.map fun p => ev.f p.2), fun _ => rfl⟩
/-- keys that the machine tells apart -/
class Kc {κ : Type} [DecidableEq κ] (t : Bool) (ek : Ec κ) : Prop where
  look : ∀ {β : Type} (ev : Ec β) (l : List (κ × β)) (q : κ), gLook t (l.map fun p => ek.f p.1) (l.map fun p => ev.f p.2) (ek.f q) = some ((dlook l q).map ev.f)
  put : ∀ {β : Type} (ev : Ec β) (l : List (κ × β)) (q : κ) (v : β), gPut t (l.map fun p => ek.f p.1) (l.map fun p => ev.f p.2) (ek.f q) (ev.f v) = some ((dput l q v).map (fun p => ek.f p.1), (dput l q v).map fun p => ev.f p.2)
  pl : Pn ek
section
variable {κ κ' β : Type} [DecidableEq κ] [DecidableEq κ'] {ek : Ec κ} {ev : Ec β} {o : D → Option κ'} {j : κ → κ'}
theorem lookG_l (h1 : ∀ k, o (ek.f k) = some (j k)) (h2 : ∀ a b, j a = j b → a = b) (q : κ) : ∀ l : List (κ × β), lookG o (l.map fun p => ek.f p.1) (l.map fun p => ev.f p.2) (j q) = (dlook l q).map ev.f
  | [] => rfl
  | p :: l => by
    rw [List.map_cons, List.map_cons, lookG, dlook, h1]
    by_cases e : p.1 = q
    · rw [if_pos (by rw [e]), if_pos e]; rfl
    · rw [if_neg (fun z => e (h2 _ _ (Option.some.inj z))), if_neg e]; exact lookG_l h1 h2 q l
theorem replG_l (h1 : ∀ k, o (ek.f k) = some (j k)) (h2 : ∀ a b, j a = j b → a = b) (q : κ) (v : β) : ∀ l : List (κ × β), replG o (l.map fun p => ek.f p.1) (l.map fun p => ev.f p.2) (j q) (ev.f v) = (l.map fun p => if p.1 = q then (p.1, v) else p).map fun p => ev.f p.2
  | [] => rfl
  | p :: l => by
    rw [List.map_cons, List.map_cons, List.map_cons, List.map_cons, replG, h1, replG_l h1 h2 q v l]
    by_cases e : p.1 = q
    · rw [if_pos (by rw [e]), if_pos e]
    · rw [if_neg (fun z => e (h2 _ _ (Option.some.inj z))), if_neg e]
theorem putG_l (h1 : ∀ k, o (ek.f k) = some (j k)) (h2 : ∀ a b, j a = j b → a = b) (q : κ) (v : β) (l : List (κ × β)) : putG o (l.map fun p => ek.f p.1) (l.map fun p => ev.f p.2) (ek.f q) (j q) (ev.f v) = ((dput l q v).map (fun p => ek.f p.1), (dput l q v).map fun p => ev.f p.2) := by
  unfold putG dput
  rw [lookG_l h1 h2, Option.isSome_map]
  by_cases e : (dlook l q).isSome = true
  · rw [if_pos e, if_pos e, replG_l h1 h2]
    congr 1
    rw [List.map_map]
    refine List.map_congr_left fun p _ => ?_
    show ek.f p.1 = ek.f (if p.1 = q then (p.1, v) else p).1
    split <;> rfl
  · rw [if_neg e, if_neg e, List.map_append, List.map_append]; rfl
end
instance : Kc false eI := ⟨fun ev l q => by
    show (dK (.int q)).map (lookG dK _ _) = _
    show some (lookG dK _ _ (Sum.inl q)) = _
    rw [lookG_l (j := fun q : Int => (Sum.inl q : Key)) (fun _ => rfl) (fun a b e => Sum.inl.inj e)],
  fun ev l q v => by
    show some (putG dK _ _ _ (Sum.inl q) _) = _
    rw [putG_l (j := fun q : Int => (Sum.inl q : Key)) (fun _ => rfl) (fun a b e => Sum.inl.inj e)], inferInstance⟩
instance : Kc true (eP eI eI) := ⟨fun ev l q => by
    show some (lookG dKT _ _ [Sum.inl q.1, Sum.inl q.2]) = _
    rw [lookG_l (j := fun q : Int × Int => ([Sum.inl q.1, Sum.inl q.2] : List Key)) (fun _ => rfl) (fun a b e => by simp at e; exact Prod.ext e.1 e.2)],
  fun ev l q v => by
    show some (putG dKT _ _ _ [Sum.inl q.1, Sum.inl q.2] _) = _
    rw [putG_l (j := fun q : Int × Int => ([Sum.inl q.1, Sum.inl q.2] : List Key)) (fun _ => rfl) (fun a b e => by simp at e; exact Prod.ext e.1 e.2)], inferInstance⟩
section
variable {κ β : Type} [DecidableEq κ] {t : Bool} {ek : Ec κ} {ev : Ec β} {k kb : Kd} {d d' : D} {l : List (κ × β)} {q : κ} {v : β}
theorem Rp.dic (h : Rp k (eDic t ek ev) l d) : ∃ o, d = .dic o t (l.map fun p => ek.f p.1) (l.map fun p => ev.f p.2) := by
  have := h.1
  cases d with
  | dic o t' ks vs =>
    simp only [eDic, fz, D.dic.injEq, true_and] at this
    obtain ⟨rfl, rfl, rfl⟩ := this
    exact ⟨o, rfl⟩
  | _ => simp_all [eDic]
variable {π : List Pt} {m ma mb mc : M}
end
section
variable {κ β τ ρ : Type} [DecidableEq κ] {t : Bool} {ek : Ec κ} {ev : Ec β} {k ka kr : Kd} {l : List (κ × β)} {π : List Pt} {π' : τ → List Pt} {er : Ec ρ} {rest : MS} {m mi : M}
end
end Zm
set_option Elab.async false
set_option linter.all false
set_option maxRecDepth 100000
set_option autoImplicit false
/-! TL7: typed: int(..), index, xs[i] op= e, == of dicts. -/
namespace Zm
open PySem PySem.Spec PyProof.Rows L2
def idxT (xs : List Int) (k : Int) : G Int := match idxOf k xs with
  | some j => pr (j : Int)
  | none => badG
def augB {τ ρ : Type} (f : Int → Int → Int) (xs : List Int) (k y : Int) (q : List Int → B τ ρ) : B τ ρ := fun s => if 0 ≤ k then (match xs[k.toNat]? with
  | some x => q (xs.set k.toNat (f x y)) s
  | none => .bad) else .bad
section
variable {π : List Pt} {ma mb : M} {k kb : Kd} {d d' : D}
theorem ints_of7 : ∀ {ds : List D} {xs : List Int}, fzs ds = xs.map eI.f → ds = xs.map D.int
  | [], [], _ => rfl
  | [], _ :: _, h => by simp at h
  | _ :: _, [], h => by simp at h
  | d :: ds, x :: xs, h => by
    rw [fzs, List.map_cons, List.cons.injEq] at h
    have : d = .int x := by cases d <;> simp_all [eI]
    rw [this, ints_of7 h.2]; rfl
theorem toI_ints : ∀ xs : List Int, toI (xs.map D.int) = some xs
  | [] => rfl
  | x :: xs => by rw [List.map_cons, toI, toI_ints xs]; rfl
theorem te_idx {tl : G (List Int)} {tk : G Int} (h : TE π ma k (eL eI) tl) (h2 : TE π mb kb eI tk) : TE π (mIndex ma mb) .pl eI (bd tl fun l => bd tk fun x => idxT l x) := fun σ s M => by
  refine (h σ s M).bind fun l d s1 r1 => ?_
  obtain ⟨o, ds, rfl, q⟩ := r1.lst
  rw [ints_of7 q]
  have h2 := h2 σ s1 M
  simp only [mArgs]
  unfold bd
  cases e2 : tk s1 with
  | bad => trivial
  | ex x s2 => rw [e2] at h2; have h2 : mb σ s1 = .ex x s2 := h2; simp only [h2, R.bind_ex]; exact rfl
  | ok x s2 =>
    rw [e2] at h2
    obtain ⟨d2, e3, r2⟩ := h2
    simp only [e3, R.bind_ok, toI_ints, r2.int]
    unfold idxT
    cases idxOf x l with
    | none => trivial
    | some j => exact ⟨_, rfl, rfl, rfl⟩
theorem te_idxP {l : List Int} {x : Int} (h : TP π ma k (eL eI) l) (h2 : TP π mb kb eI x) : TE π (mIndex ma mb) .pl eI (idxT l x) := te_idx h.te h2.te
end
section
variable {τ ρ : Type} {k ka kr : Kd} {π : List Pt} {π' : τ → List Pt} {er : Ec ρ} {rest : MS} {m mi : M} {f : Int → Int → Int}
theorem ts_augI {xs : List Int} {x y : Int} {q : List Int → B τ ρ} (i : Nat) (hk : TP π mi ka eI x) (hv : TP π m k eI y) (n : ∀ l, TS (π.set i (.vr .own (eL eI) l)) rest π' kr er (q l)) (hx : π[i]? = some (.vr .own (eL eI) xs) := by rfl) :
    TS π (mSeq (mAugI f i mi m) rest) π' kr er (augB f xs x y q) := fun σ s M => by
  obtain ⟨d0, e0, r0⟩ := M.get hx
  obtain ⟨ds, rfl, q1, q2⟩ := r0.lstO
  rw [ints_of7 q1] at e0
  obtain ⟨d1, h1, r1⟩ := hk σ s M
  obtain ⟨d2, h2, r2⟩ := hv σ s M
  unfold augB
  by_cases h : 0 ≤ x
  · rw [if_pos h]
    cases e : xs[x.toNat]? with
    | none => trivial
    | some z =>
      simp only [mSeq, mAugI, e0, h1, r1.int, R.to_ok, h2, r2.int, List.getElem?_map, e, Option.map_some]
      rw [if_pos h]
      have eq : (xs.map D.int).set x.toNat (.int (f z y)) = (xs.set x.toNat (f z y)).map D.int := by rw [List.map_set]
      rw [eq]
      refine n _ _ s (M.set i (ptm (rp_own ?_ ?_)))
      · rw [fzs_eq, List.map_map]; rfl
      · exact noFs_pn (e := eI) (xs := xs.set x.toNat (f z y)) (by rw [fzs_eq, List.map_map]; rfl)
  · rw [if_neg h]; trivial
end
end Zm
set_option Elab.async false
set_option linter.all false
set_option maxRecDepth 100000
set_option autoImplicit false
namespace Zm
open PySem
section
variable {α τ ρ : Type} {π : List Pt} {π' : τ → List Pt} {m : M} {rest : MS} {k kr : Kd} {e : Ec α} {er : Ec ρ} {t : G α} {x : α} {msk : List Bool}
theorem ts_unpQ {tg : Tg} {q : α → B τ ρ} {π1 : α → List Pt} (h : TE π m .pl e t) (hb : ∀ x, TB tg e x π (π1 x)) (n : ∀ x, TS (π1 x) rest π' kr er (q x)) : TS π (mSeq (mUnpD msk tg m) rest) π' kr er (eb t q) := fun σ s M => by
  have h1 := h σ s M
  unfold Zm.eb
  cases z : t s with
  | bad => trivial
  | ex x s1 => rw [z] at h1; have h1 : m σ s = .ex x s1 := h1; simp only [mSeq, mUnpD, h1, R.to_ex, RS.then_ex]; exact ⟨σ, rfl⟩
  | ok x s1 =>
    rw [z] at h1; obtain ⟨d, h1, r1⟩ := h1
    simp only [mSeq, mUnpD, h1, R.to_ok]
    obtain ⟨σ1, e1, m1⟩ := hb x _ M
    rw [if_pos (plain_noF _ r1.2)]; simp only [r1.1, e1, RS.then_nx]
    exact n x σ1 s1 m1
end
end Zm
set_option Elab.async false
set_option linter.all false
set_option maxRecDepth 100000
set_option autoImplicit false
/-! TL9: x = y[k] if t else e; lists within lists written. -/
namespace Zm
open PySem
section
variable {α β τ ρ : Type} {π : List Pt} {π' : τ → List Pt} {m m2 mi mj mk : M} {rest : MS} {k kr ki kj kk : Kd} {e : Ec α} {er : Ec ρ} {t : G α} {x : α} {msk : List Bool} {i j : Nat} {c : T} {g : G Bool} {ti : G Int}
end
end Zm
namespace Zm
open PySem
end Zm
namespace Zm
open PySem
section
variable {α : Type} {π : List Pt} {m : M} {k : Kd} {e : Ec α} {t : G α} {x : α} {b c : String}
end
end Zm
set_option Elab.async false
set_option linter.all false
set_option maxRecDepth 100000
set_option autoImplicit false
/-! TL10: things of another kind put into a list that is not read any more. -/
namespace Zm
open PySem
section
variable {α β τ ρ : Type} {π : List Pt} {π' : τ → List Pt} {m : M} {rest : MS} {k kr : Kd} {e : Ec α} {ea : Ec β} {er : Ec ρ} {t : G β} {msk : List Bool} {i : Nat}
end
end Zm
set_option Elab.async false
set_option linter.all false
set_option maxRecDepth 100000
set_option autoImplicit false
/-! TL11: loops that write the lists within a list; rows of unlike things. -/
namespace Zm
open PySem
inductive UT where
  | app (c : D)
  | rev
  | seq (a b : UT)
  | each (u : UT)
inductive UR (π : List Pt) : UP → UT → Prop
  | app {α : Type} {e : Ec α} {m : M} {x : α} : TP π m .pl e x → UR π (.app m) (.app (e.f x))
  | rev : UR π .rev .rev
  | seq {a b : UP} {a' b' : UT} : UR π a a' → UR π b b' → UR π (.seq a b) (.seq a' b')
  | each {u : UP} {u' : UT} : UR π u u' → UR π (.each u) (.each u')
section
variable {π : List Pt} {σ : Env} {s : Sto}
end
section
variable {α β τ ρ : Type} {π : List Pt} {π' : τ → List Pt} {rest : MS} {kr : Kd} {e : Ec α} {er : Ec ρ} {u : UP} {ut : UT} {x : α} {vs : List Nat}
end
end Zm
set_option Elab.async false
set_option linter.all false
set_option maxRecDepth 100000
set_option autoImplicit false
/-! TL12: defs as values; a dict of one pair; sorted keys; list(range(..)). -/
namespace Zm
open PySem
section
variable {α β ρ : Type} {π : List Pt} {m mf mk mv ma mb : M} {ms : List M} {k kr ka kb : Kd} {e : Ec α} {er : Ec ρ} {tf : G D} {tbl : List (Str × Fn)}
end
section
variable {α β ρ : Type} {π : List Pt} {m mf mk mv ma mb : M} {k kr ka kb : Kd} {e : Ec α} {er : Ec ρ} {ta tb : G Int} {tv : G α}
end
end Zm
namespace Zm
open PySem
end Zm
namespace Zm
open PySem
section
variable {ρ : Type} {tbl : List (Str × Fn)} {a : Str} {m0 : Fn} {t0 : G ρ} {tg : Str → G ρ}
end
end Zm
set_option Elab.async false
set_option linter.all false
set_option maxRecDepth 100000
set_option autoImplicit false
/-! TL13: a pair as a tuple of like things. -/
namespace Zm
open PySem
section
variable {α : Type} {π : List Pt} {m : M} {k : Kd} {e : Ec α}
end
section
variable {α : Type} {π : List Pt} {rest : MS} {τ : Type} {π' : τ → List Pt} {k : Kd} {e : Ec α}
end
end Zm
set_option Elab.async false
set_option linter.all false
set_option maxRecDepth 100000
set_option autoImplicit false
/-! TL14: enumerate of a zip. -/
namespace Zm
open PySem
section
variable {α β : Type} {π : List Pt} {ma mb : M} {e : Ec α} {ea : Ec β}
end
end Zm
namespace Zm
open PySem
section
variable {α τ ρ : Type} {π : List Pt} {π' : τ → List Pt} {ma mb mc md : M} {rest : MS} {kr ka kb kc kd : Kd} {e : Ec α} {er : Ec ρ}
end
end Zm
namespace Zm
open PySem
section
variable {α : Type} {π : List Pt} {m : M} {e : Ec α}
theorem rp_someP {x : α} {d : D} (h : Rp .pl e x d) : Rp .pl (eO e) (some x) d := ⟨h.1, h.2⟩
theorem TP.someP {x : α} (h : TP π m .pl e x) : TP π m .pl (eO e) (Option.some x) := fun σ s M => let ⟨d, q, r⟩ := h σ s M; ⟨d, q, rp_someP r⟩
theorem TE.someP {t : G α} (h : TE π m .pl e t) : TE π m .pl (eO e) (bd t fun x => pr (Option.some x)) := fun σ s M => by
  have h := h σ s M
  unfold bd
  cases z : t s with
  | bad => trivial
  | ex x s1 => rw [z] at h; exact h
  | ok x s1 =>
    rw [z] at h; obtain ⟨d, h1, r1⟩ := h
    exact ⟨d, h1, rp_someP r1⟩
end
end Zm
set_option Elab.async false
set_option linter.all false
set_option maxRecDepth 100000
set_option autoImplicit false
/-! TL15: late rules. -/
namespace Zm
open PySem
section
variable {α β : Type} {ka : Kd} {e : Ec α} {ea : Ec β} {d : D}
end
end Zm
set_option Elab.async false
set_option linter.all false
set_option maxRecDepth 100000
set_option autoImplicit false
/-! TL16: late rules: name *= e. -/
namespace Zm
open PySem
section
variable {ρ τ : Type} {π : List Pt} {π' : τ → List Pt} {rest : MS} {kr : Kd} {er : Ec ρ} {m : M} {k kc : Kd}
end
end Zm
set_option Elab.async false
set_option linter.all false
set_option maxRecDepth 100000
set_option autoImplicit false
/-! TL17: late rules: min of three. -/
namespace Zm
open PySem
section
variable {ka kb kc : Kd} {d d' d2 : D}
end
end Zm
set_option Elab.async false
set_option linter.all false
set_option maxRecDepth 100000
set_option autoImplicit false
/-! TL18: late rules: tuple(reversed(..)), list(reversed(..)). -/
namespace Zm
open PySem
section
variable {α : Type} {ka : Kd} {e : Ec α} {d : D}
end
end Zm
set_option Elab.async false
set_option linter.all false
set_option maxRecDepth 100000
set_option autoImplicit false
/-! TL19: late rules: return (number, own list); a, b = what holds nothing frozen. -/
namespace Zm
open PySem
section
variable {ρ τ α : Type} {π : List Pt} {π' : τ → List Pt} {rest : MS} {kr : Kd} {er : Ec ρ} {m : M} {k : Kd} {e : Ec α} {msk : List Bool}
end
end Zm
set_option Elab.async false
set_option linter.all false
set_option maxRecDepth 100000
set_option autoImplicit false
/-! TL20: late rules: a name becomes a new list of what is frozen. -/
namespace Zm
open PySem
section
variable {ρ τ α : Type} {π : List Pt} {π' : τ → List Pt} {rest : MS} {kr : Kd} {er : Ec ρ} {m : M} {e : Ec α} {msk : List Bool} {i : Nat}
theorem ts_setTE {t : G (List α)} {q : List α → B τ ρ} (h : TE (restrP msk π) m .top (eL e) t) (n : ∀ x, TS ((frzP msk π).set i (.vr .top (eL e) x)) rest π' kr er (q x)) (hi' : Nat.blt i π.length = true := by rfl) : TS π (mSeq (mSetT msk i m) rest) π' kr er (eb t q) := fun σ s M => by
  have hl := M.len
  have hi := Nat.le_of_ble_eq_true hi'
  have h2 := h _ s (M.restr (bs := msk))
  unfold Zm.eb
  cases z : t s with
  | bad => trivial
  | ex x s1 => rw [z] at h2; have h2 : m (restr msk σ) s = .ex x s1 := h2; simp only [mSeq, mSetT, h2, R.to_ex, RS.then_ex]; exact ⟨σ, rfl⟩
  | ok x s1 =>
    rw [z] at h2; obtain ⟨d2, h2, r2⟩ := h2
    obtain ⟨f2, ds, rfl⟩ := r2
    simp only [mSeq, mSetT, h2, R.to_ok]
    rw [if_pos (by omega)]
    have f3 : D.lst false (fzs ds) = (eL e).f x := by simpa using f2
    exact n x _ s1 (M.frz.set i ⟨_, rfl, ⟨by rw [← f3]; simp [fzs_fzs], fzs ds, rfl⟩⟩)
theorem ts_setTP {x : List α} {q : List α → B τ ρ} (h : TP (restrP msk π) m .top (eL e) x) (n : ∀ x, TS ((frzP msk π).set i (.vr .top (eL e) x)) rest π' kr er (q x)) (hi' : Nat.blt i π.length = true := by rfl) : TS π (mSeq (mSetT msk i m) rest) π' kr er (lt x q) := ts_setTE h.te n hi'
end
end Zm
set_option Elab.async false
set_option linter.all false
set_option maxRecDepth 100000
set_option autoImplicit false
/-! TL21: late rules: sorted(d) of pair keys. -/
namespace Zm
open PySem
section
variable {β : Type} {k : Kd} {ev : Ec β} {d : D}
end
end Zm
set_option Elab.async false
set_option linter.all false
set_option maxRecDepth 100000
set_option autoImplicit false
/-! TL22: late rules: x[j][k] += e. -/
namespace Zm
open PySem
section
variable {ρ τ : Type} {π : List Pt} {π' : τ → List Pt} {rest : MS} {kr kj kk k : Kd} {er : Ec ρ} {mj mk m : M}
end
end Zm
set_option Elab.async false
set_option linter.all false
set_option maxRecDepth 100000
set_option autoImplicit false
/-! TL23: late rules: name = f(a, xs.pop(e)), f a def as a value; sorted(xs, reverse=True). -/
namespace Zm
open PySem
section
variable {α η ρ τ : Type} {π : List Pt} {π' : τ → List Pt} {rest : MS} {kr kk kd kh k : Kd} {er : Ec ρ} {e : Ec α} {eh : Ec η} {vh : η} {me : M} {tbl : List (Str × Fn)} {msk : List Bool}
end
section
variable {ka : Kd} {d : D}
end
end Zm
set_option Elab.async false
set_option linter.all false
set_option maxRecDepth 100000
set_option autoImplicit false
/-! TL24: late rules: the least of a list of lists. -/
namespace Zm
open PySem
@[irreducible] def minLLT (xs : List (List Int)) : G (List Int) := fun s => match xs with
  | x :: xs => .ok (minLL x xs) s
  | [] => .bad
section
variable {α β ρ τ : Type} {π : List Pt} {π' : τ → List Pt} {rest : MS} {kr k : Kd} {er : Ec ρ} {e : Ec α} {ea : Ec β} {m : M} {t : G β} {msk : List Bool}
end
end Zm
set_option Elab.async false
set_option linter.all false
set_option maxRecDepth 100000
set_option autoImplicit false
/-! TL25: late rules: a tuple so many times. -/
namespace Zm
open PySem
section
variable {α : Type} {e : Ec α} {ka kb : Kd} {d d' : D}
@[irreducible] def repsG (xs : List α) (k : Int) : G (List α) := fun s => if k = 1 then .bad else repsT xs k s
theorem x_repsG [Pn e] {xs : List α} {j : Int} (h : Rp ka (eT e) xs d) (h' : Rp kb eI j d') : OkE gMul [d, d'] .any (eT e) (repsG xs j) := fun s => by
  unfold repsG
  by_cases z : j = 1
  · rw [if_pos z]; trivial
  · rw [if_neg z]
    have := x_reps h h' s
    obtain ⟨ds, e1, _⟩ := h.tup
    have e2 := h'.int
    subst e1 e2
    have e3 : gMulT s [.tup ds, .int j] = gMul s [.tup ds, .int j] := by
      show (if j = 1 then some (D.tup ds) else gMul s [.tup ds, .int j]) = _
      rw [if_neg z]
    rw [e3] at this
    exact this
end
section
variable {α β ρ τ : Type} {π : List Pt} {π' : τ → List Pt} {rest : MS} {kr k kb : Kd} {er : Ec ρ} {e : Ec α} {m mi : M} {t : G α} {msk : List Bool}
end
theorem te_nonX {π : List Pt} : TP π (mC .non) .fro eX D.non := fun σ s M => ⟨_, rfl, rfl, rfl⟩
end Zm
set_option Elab.async false
set_option linter.all false
set_option maxRecDepth 100000
set_option autoImplicit false
/-! TL26: xs[j] = F(box, xs[j]). -/
namespace Zm
open PySem
section
variable {ρ τ : Type} {π : List Pt} {π' : τ → List Pt} {rest : MS} {kr : Kd} {er : Ec ρ} {fn : Fn}
end
end Zm
set_option Elab.async false
set_option linter.all false
set_option maxRecDepth 100000
set_option autoImplicit false
/-! TL27: sorted(a tuple of numbers). -/
namespace Zm
open PySem
end Zm
set_option Elab.async false
set_option linter.all false
set_option maxRecDepth 100000
set_option autoImplicit false
/-! TL28: an empty dict as anything; repr of such data; lists of texts that a machine tells. -/
namespace Zm
open PySem
section
variable {π : List Pt} {k ka : Kd} {α : Type} {e : Ec α} {x : α} {d : D}
theorem te_dicX : TP π (mDic false) .own eX (.dic false false [] []) := fun σ s M => ⟨_, rfl, rfl, rfl⟩
@[irreducible] def reprZ (a : D) : G Str := fun s => match gReprZ s [a] with
  | some (.str z) => .ok z s
  | _ => .bad
theorem x_reprZ (h : Rp ka e x d) : OkE gReprZ [d] .pl eS (reprZ (e.f x)) := fun s => by
  have : gReprZ s [e.f x] = gReprZ s [d] := by rw [← h.1]; simp only [gReprZ, pz_fz]
  unfold reprZ
  rw [this]
  cases gReprZ s [d] with
  | none => trivial
  | some z => cases z with
    | str b => exact ⟨_, rfl, rfl, rfl⟩
    | _ => trivial
end
def strsD : List D → Option (List Str)
  | [] => some []
  | .str x :: r => (strsD r).map (x :: ·)
  | _ => none
def strsL : D → Option (List Str)
  | .lst _ ds => strsD ds
  | _ => none
theorem strsD_eq : ∀ {ds : List D} {l : List Str}, strsD ds = some l → ds = l.map D.str
  | [], _, h => by cases h; rfl
  | d :: r, l, h => by
    cases d <;> first | cases h | skip
    rename_i x
    obtain ⟨y, e, rfl⟩ := Option.map_eq_some_iff.mp h
    rw [strsD_eq e]; rfl
theorem strsL_eq {d : D} {l : List Str} (h : strsL d = some l) : fz d = (eL eS).f l := by
  cases d <;> first | cases h | skip
  rename_i o ds
  rw [strsD_eq h]
  show D.lst false (fzs (l.map D.str)) = .lst false (l.map eS.f)
  rw [fzs_eq, List.map_map]; rfl
end Zm
set_option Elab.async false
set_option linter.all false
set_option maxRecDepth 100000
set_option maxHeartbeats 4000000
set_option autoImplicit false
namespace Zm
open PySem
def g_is_whole (x0 : D) : G Bool := fun s => match f_is_whole [fz x0] s with
  | .ok (.bl r) s => .ok r s
  | .ex x s => .ex x s
  | _ => .bad
theorem tf_is_whole {x0 : D} {d_0 : D} (h_0 : Rp .fro eX x0 d_0) (s : Sto) : Rf .pl eB (g_is_whole x0 s) (f_is_whole [d_0] s) := by
  rw [h_0.froX]
  unfold g_is_whole
  cases f_is_whole [fz x0] s with
  | ok d s1 => cases d <;> first | exact ⟨_, rfl, rfl, rfl⟩ | trivial
  | ex x s1 => exact rfl
  | bad => trivial
def g_is_amount (x0 : D) : G Bool := fun s => match f_is_amount [fz x0] s with
  | .ok (.bl r) s => .ok r s
  | .ex x s => .ex x s
  | _ => .bad
theorem tf_is_amount {x0 : D} {d_0 : D} (h_0 : Rp .fro eX x0 d_0) (s : Sto) : Rf .pl eB (g_is_amount x0 s) (f_is_amount [d_0] s) := by
  rw [h_0.froX]
  unfold g_is_amount
  cases f_is_amount [fz x0] s with
  | ok d s1 => cases d <;> first | exact ⟨_, rfl, rfl, rfl⟩ | trivial
  | ex x s1 => exact rfl
  | bad => trivial
def g_is_hall (x0 : D) : G Bool := fun s => match f_is_hall [fz x0] s with
  | .ok (.bl r) s => .ok r s
  | .ex x s => .ex x s
  | _ => .bad
theorem tf_is_hall {x0 : D} {d_0 : D} (h_0 : Rp .fro eX x0 d_0) (s : Sto) : Rf .pl eB (g_is_hall x0 s) (f_is_hall [d_0] s) := by
  rw [h_0.froX]
  unfold g_is_hall
  cases f_is_hall [fz x0] s with
  | ok d s1 => cases d <;> first | exact ⟨_, rfl, rfl, rfl⟩ | trivial
  | ex x s1 => exact rfl
  | bad => trivial
/-- need_hall -/
def g_need_hall (hall : (List (List Int))) : G Unit := fnU (τ := Unit) (ifB (notG (g_is_hall ((eT (eT eI)).f hall))) badB (nxB ()))
theorem tf_need_hall {hall : (List (List Int))} {d_0 : D} (h_0 : Rp .any (eT (eT eI)) hall d_0) (s : Sto) : Rf .pl eN (g_need_hall hall s) (f_need_hall [d_0] s) := fnU_ok (π' := fun _ : Unit => nosP 1) rfl (mt_cons h_0.plain (mt_nos 0)) (ts_one (ts_ifD (tc_not (tc_V (te_call (ta_P (TP.asXp (te_varP 0)) fun d1 r1 => (ta_nil (fun s => tf_is_hall r1 s)))))) ts_bad (ts_skip ts_end)))
/-- _law_cell_at -/
def g__law_cell_at (script : (List Int)) (k : Int) : G Int := fnT (τ := Unit) (if (decide (k < (script.length : Int))) = true then (eb (ixT script k) rtB) else (rtB (0 : Int)))
theorem tf__law_cell_at {script : (List Int)} {k : Int} {d_0 : D} {d_1 : D} (h_0 : Rp .any eRo script d_0) (h_1 : Rp .any eI k d_1) (s : Sto) : Rf .pl eI (g__law_cell_at script k s) (f__law_cell_at [d_0, d_1] s) := fn_ok (π' := fun _ : Unit => nosP 2) rfl (mt_cons h_0.plain (mt_cons h_1.plain (mt_nos 0))) (ts_ifDp (tcp_V (tp_op (pa (te_varP 1) fun d2 r2 => (pa (tp_op (pa (te_varP 0) fun d1 r1 => (pa_nil (x_lenR r1)))) fun d3 r3 => (pa_nil (x_lt r2 r3)))))) (ts_retE (te_op (ta_P (te_varP 0) fun d4 r4 => (ta_P (te_varP 1) fun d5 r5 => (ta_nil (x_ixR r4 r5)))))) (ts_skip (ts_one (ts_retP te_int))))
def g__law_bag (x0 : Int) : G Nat := fun s => match f__law_bag [.int x0] s with
  | .ok (.box r) s => .ok r s
  | .ex x s => .ex x s
  | _ => .bad
theorem tf__law_bag {x0 : Int} {d_0 : D} (h_0 : Rp .any eI x0 d_0) (s : Sto) : Rf .pl eBx (g__law_bag x0 s) (f__law_bag [d_0] s) := by
  rw [h_0.int]
  unfold g__law_bag
  cases f__law_bag [.int x0] s with
  | ok d s1 => cases d <;> first | exact ⟨_, rfl, rfl, rfl⟩ | trivial
  | ex x s1 => exact rfl
  | bad => trivial
def g__law_draw (x0 : Nat) (x1 : Int) : G Int := fun s => match f__law_draw [.box x0, .int x1] s with
  | .ok (.int r) s => .ok r s
  | .ex x s => .ex x s
  | _ => .bad
theorem tf__law_draw {x0 : Nat} {x1 : Int} {d_0 : D} {d_1 : D} (h_0 : Rp .any eBx x0 d_0) (h_1 : Rp .any eI x1 d_1) (s : Sto) : Rf .pl eI (g__law_draw x0 x1 s) (f__law_draw [d_0, d_1] s) := by
  rw [h_0.box]; rw [h_1.int]
  unfold g__law_draw
  cases f__law_draw [.box x0, .int x1] s with
  | ok d s1 => cases d <;> first | exact ⟨_, rfl, rfl, rfl⟩ | trivial
  | ex x s1 => exact rfl
  | bad => trivial
@[irreducible] def g__law_alike_8dc4 (x0 : D) (x1 : D) : G Bool := fun s => match f__law_alike_8dc4 [fz x0, fz x1] s with
  | .ok (.bl r) s => .ok r s
  | .ex x s => .ex x s
  | _ => .bad
/-- need_neighbours -/
def g_need_neighbours (hall : (List (List Int))) (counter : Int) : G Unit := fnU (τ := Unit) (ifB (orG (notG (g_is_amount (eI.f counter))) (pr (decide (((hall.length : Int) - (1 : Int)) ≤ counter)))) badB (nxB ()))
theorem tf_need_neighbours {hall : (List (List Int))} {counter : Int} {d_0 : D} {d_1 : D} (h_0 : Rp .any (eT (eT eI)) hall d_0) (h_1 : Rp .any eI counter d_1) (s : Sto) : Rf .pl eN (g_need_neighbours hall counter s) (f_need_neighbours [d_0, d_1] s) := fnU_ok (π' := fun _ : Unit => nosP 2) rfl (mt_cons h_0.plain (mt_cons h_1.plain (mt_nos 0))) (ts_one (ts_ifD (tc_or (tc_not (tc_V (te_call (ta_P (TP.asXp (te_varP 1)) fun d6 r6 => (ta_nil (fun s => tf_is_amount r6 s)))))) (TCp.tc (tcp_V (tp_op (pa (te_varP 1) fun d4 r4 => (pa (tp_op (pa (tp_op (pa (te_varP 0) fun d1 r1 => (pa_nil (x_lenT r1)))) fun d2 r2 => (pa te_int fun d3 r3 => (pa_nil (x_sub r2 r3))))) fun d5 r5 => (pa_nil (x_ge r4 r5)))))))) ts_bad (ts_skip ts_end)))
/-- need_both -/
def g_need_both (hall : (List (List Int))) (counter : Int) : G Unit := fnU (τ := Unit) (eb (g_need_hall hall) fun _ => (eb (g_need_neighbours hall counter) fun _ => (nxB ())))
theorem tf_need_both {hall : (List (List Int))} {counter : Int} {d_0 : D} {d_1 : D} (h_0 : Rp .any (eT (eT eI)) hall d_0) (h_1 : Rp .any eI counter d_1) (s : Sto) : Rf .pl eN (g_need_both hall counter s) (f_need_both [d_0, d_1] s) := fnU_ok (π' := fun _ : Unit => nosP 2) rfl (mt_cons h_0.plain (mt_cons h_1.plain (mt_nos 0))) (ts_do (te_call (ta_P (te_varP 0) fun d1 r1 => (ta_nil (fun s => tf_need_hall r1.any s)))) (ts_one (ts_do (te_call (ta_P (te_varP 0) fun d2 r2 => (ta_P (te_varP 1) fun d3 r3 => (ta_nil (fun s => tf_need_neighbours r2.any r3.any s))))) ts_end)))
/-- leads -/
def g_leads (hall : (List (List Int))) (counter : Int) : G (List Int) := fnT (τ := Unit) (lt ([] : (List Int)) fun found => (lt (0 : Int) fun lead => (lt (0 : Int) fun behind => (sq (τ := (Int × Int × (List Int))) (eb (bd (ixT hall counter) fun z7 => (bd (ixT hall (counter + (1 : Int))) fun z8 => (pr (z7.zip z8)))) fun xs => forT (fun x10 (v9 : (Int × Int × (List Int))) => (lt (v9.1 + (x10.1 - v9.2.1)) fun lead1 => (lt x10.2 fun behind1 => (apB v9.2.2 lead1 fun found1 => (nxB (lead1, behind1, found1)))))) xs (lead, behind, found)) fun (v9 : (Int × Int × (List Int))) => (rtB v9.2.2)))))
theorem tf_leads {hall : (List (List Int))} {counter : Int} {d_0 : D} {d_1 : D} (h_0 : Rp .any (eT (eT eI)) hall d_0) (h_1 : Rp .any eI counter d_1) (s : Sto) : Rf .own (eL eI) (g_leads hall counter s) (f_leads [d_0, d_1] s) := fn_ok (π' := fun _ : Unit => nosP 7) rfl (mt_cons h_0.plain (mt_cons h_1.plain (mt_nos 5))) (ts_setP (i := 2) (tp_op (pa_nil (x_lstO (RpL.nil (k := .own) (e := eI))))) fun found => (at_ [.vr .pl (eT (eT eI)) hall, .vr .pl eI counter, .vr .own (eL eI) found, .no, .no, .no, .no] (ts_setPlP (i := 3) te_int fun lead => (at_ [.vr .pl (eT (eT eI)) hall, .vr .pl eI counter, .vr .own (eL eI) found, .vr .pl eI lead, .no, .no, .no] (ts_setPlP (i := 4) te_int fun behind => (at_ [.vr .pl (eT (eT eI)) hall, .vr .pl eI counter, .vr .own (eL eI) found, .vr .pl eI lead, .vr .pl eI behind, .no, .no] (ts_sq (π' := (fun (v9 : Int × Int × (List Int)) => [.vr .pl (eT (eT eI)) hall, .vr .pl eI counter, .vr .own (eL eI) v9.2.2, .vr .pl eI v9.1, .vr .pl eI v9.2.1, .no, .no])) (ts_forE (v0 := (lead, behind, found)) (fun (v9 : Int × Int × (List Int)) => [.vr .pl (eT (eT eI)) hall, .vr .pl eI counter, .vr .own (eL eI) v9.2.2, .vr .pl eI v9.1, .vr .pl eI v9.2.1, .no, .no]) (ti_zip2 (itE_T (te_op (ta_P (te_varP 0) fun d1 r1 => (ta_P (te_varP 1) fun d2 r2 => (ta_nil (x_ixT r1 r2)))))) (itE_T (te_op (ta_P (te_varP 0) fun d5 r5 => (ta_P (tp_op (pa (te_varP 1) fun d3 r3 => (pa te_int fun d4 r4 => (pa_nil (x_addI r3 r4))))) fun d6 r6 => (ta_nil (x_ixT r5 r6))))))) (wk_eq (wk_eq (wk_eq (wk_eq (wk_eq (wk_no (wk_no wk_nil))))))) (fun x10 (v9 : (Int × Int × (List Int))) => ⟨[.vr .pl (eT (eT eI)) hall, .vr .pl eI counter, .vr .own (eL eI) v9.2.2, .vr .pl eI v9.1, .vr .pl eI v9.2.1, .vr .pl eI x10.1, .vr .pl eI x10.2], (tb_t2 (tb_nmP (i := 5)) (tb_nmP (i := 6))), (ts_aug 3 (tp_op (pa (te_varP 5) fun d11 r11 => (pa (te_varP 4) fun d12 r12 => (pa_nil (x_sub r11 r12))))) fun lead1 => (at_ [.vr .pl (eT (eT eI)) hall, .vr .pl eI counter, .vr .own (eL eI) v9.2.2, .vr .pl eI lead1, .vr .pl eI v9.2.1, .vr .pl eI x10.1, .vr .pl eI x10.2] (ts_setPlP (i := 4) (te_varP 6) fun behind1 => (at_ [.vr .pl (eT (eT eI)) hall, .vr .pl eI counter, .vr .own (eL eI) v9.2.2, .vr .pl eI lead1, .vr .pl eI behind1, .vr .pl eI x10.1, .vr .pl eI x10.2] (ts_one (ts_appP 2 ((te_varP 3)).own fun found1 => (at_ [.vr .pl (eT (eT eI)) hall, .vr .pl eI counter, .vr .own (eL eI) found1, .vr .pl eI lead1, .vr .pl eI behind1, .vr .pl eI x10.1, .vr .pl eI x10.2] (ts_nil (v := (lead1, behind1, found1)) (wk_eq (wk_eq (wk_eq (wk_eq (wk_eq (wk_no (wk_no wk_nil)))))))))))))))⟩)) fun (v9 : (Int × Int × (List Int))) => (ts_one (ts_retV 2)))))))))
/-- with_rows -/
def g_with_rows (hall : (List (List Int))) (counter : Int) (here : (List Int)) (there : (List Int)) : G (List (List Int)) := fnT (τ := Unit) (eb (bd (catT (cutD hall none (some counter)) [here, there]) fun y13 => (catT y13 (cutD hall (some (counter + (2 : Int))) none))) rtB)
theorem tf_with_rows {hall : (List (List Int))} {counter : Int} {here : (List Int)} {there : (List Int)} {d_0 : D} {d_1 : D} {d_2 : D} {d_3 : D} (h_0 : Rp .any (eT (eT eI)) hall d_0) (h_1 : Rp .any eI counter d_1) (h_2 : Rp .any (eL eI) here d_2) (h_3 : Rp .any (eL eI) there d_3) (s : Sto) : Rf .pl (eT (eT eI)) (g_with_rows hall counter here there s) (f_with_rows [d_0, d_1, d_2, d_3] s) := fn_ok (π' := fun _ : Unit => nosP 4) rfl (mt_cons h_0.plain (mt_cons h_1.plain (mt_cons h_2 (mt_cons h_3 (mt_nos 0))))) (ts_one (ts_retE ((te_op (ta_E ((te_op (ta_P ((tp_op (pa (te_varP 0) fun d1 r1 => (pa (te_varP 1) fun d2 r2 => (pa_nil (x_sl01T r1 r2)))))).plain fun d7 r7 => (ta_P ((tp_op (pa ((tp_op (pa (te_var 2) fun d3 r3 => (pa_nil (x_tupL r3))))).plain fun d5 r5 => (pa ((tp_op (pa (te_var 3) fun d4 r4 => (pa_nil (x_tupL r4))))).plain fun d6 r6 => (pa_nil (x_tup (RpL.cons r5 (RpL.cons r6 RpL.nil)))))))).plain fun d8 r8 => (ta_nil (x_catT r7 r8)))))).plain fun y13 d13 r13 => (ta_P ((tp_op (pa (te_varP 0) fun d11 r11 => (pa (tp_op (pa (te_varP 1) fun d9 r9 => (pa te_int fun d10 r10 => (pa_nil (x_addI r9 r10))))) fun d12 r12 => (pa_nil (x_sl10T r11 r12)))))).plain fun d14 r14 => (ta_nil (x_catT r13 r14)))))).plain))
/-- with_minute -/
def g_with_minute (hall : (List (List Int))) (counter : Int) (customer : Int) (by1 : Int) : G (List (List Int)) := fnT (τ := Unit) (eb (bd (ixT hall counter) fun y3 => (pr y3)) fun here => (eb (bd (ixT hall (counter + (1 : Int))) fun y8 => (pr y8)) fun there => (augB (fun a b => a - b) here customer by1 fun here1 => (augB (fun a b => a + b) there customer by1 fun there1 => (eb (g_with_rows hall counter here1 there1) rtB)))))
theorem tf_with_minute {hall : (List (List Int))} {counter : Int} {customer : Int} {by1 : Int} {d_0 : D} {d_1 : D} {d_2 : D} {d_3 : D} (h_0 : Rp .any (eT (eT eI)) hall d_0) (h_1 : Rp .any eI counter d_1) (h_2 : Rp .any eI customer d_2) (h_3 : Rp .any eI by1 d_3) (s : Sto) : Rf .pl (eT (eT eI)) (g_with_minute hall counter customer by1 s) (f_with_minute [d_0, d_1, d_2, d_3] s) := fn_ok (π' := fun _ : Unit => nosP 6) rfl (mt_cons h_0.plain (mt_cons h_1.plain (mt_cons h_2.plain (mt_cons h_3.plain (mt_nos 2))))) (ts_setE (i := 4) (te_op (ta_E (te_op (ta_P (te_varP 0) fun d1 r1 => (ta_P (te_varP 1) fun d2 r2 => (ta_nil (x_ixT r1 r2))))) fun y3 d3 r3 => (ta_nil (ok_p (x_listTP r3))))) fun here => (at_ [.vr .pl (eT (eT eI)) hall, .vr .pl eI counter, .vr .pl eI customer, .vr .pl eI by1, .vr .own (eL eI) here, .no] (ts_setE (i := 5) (te_op (ta_E (te_op (ta_P (te_varP 0) fun d6 r6 => (ta_P (tp_op (pa (te_varP 1) fun d4 r4 => (pa te_int fun d5 r5 => (pa_nil (x_addI r4 r5))))) fun d7 r7 => (ta_nil (x_ixT r6 r7))))) fun y8 d8 r8 => (ta_nil (ok_p (x_listTP r8))))) fun there => (at_ [.vr .pl (eT (eT eI)) hall, .vr .pl eI counter, .vr .pl eI customer, .vr .pl eI by1, .vr .own (eL eI) here, .vr .own (eL eI) there] (ts_augI 4 (te_varP 2) (te_varP 3) fun here1 => (at_ [.vr .pl (eT (eT eI)) hall, .vr .pl eI counter, .vr .pl eI customer, .vr .pl eI by1, .vr .own (eL eI) here1, .vr .own (eL eI) there] (ts_augI 5 (te_varP 2) (te_varP 3) fun there1 => (at_ [.vr .pl (eT (eT eI)) hall, .vr .pl eI counter, .vr .pl eI customer, .vr .pl eI by1, .vr .own (eL eI) here1, .vr .own (eL eI) there1] (ts_one (ts_retE (te_call (ta_P (te_varP 0) fun d9 r9 => (ta_P (te_varP 1) fun d10 r10 => (ta_P (te_var 4) fun d11 r11 => (ta_P (te_var 5) fun d12 r12 => (ta_nil (fun s => tf_with_rows r9.any r10.any r11.any r12.any s)))))))))))))))))
/-- moved_on -/
def g_moved_on (hall : (List (List Int))) (counter : Int) : G (Option (List (List Int))) := fnT (τ := Unit) (eb (g_leads hall counter) fun row => (eb (maxT row) fun most => (eb (if (decide (most = (0 : Int))) = true then (pr none) else (bd (bd (idxT row most) fun y8 => (g_with_minute hall counter y8 (1 : Int))) fun x => pr (some x))) rtB)))
theorem tf_moved_on {hall : (List (List Int))} {counter : Int} {d_0 : D} {d_1 : D} (h_0 : Rp .any (eT (eT eI)) hall d_0) (h_1 : Rp .any eI counter d_1) (s : Sto) : Rf .pl (eO (eT (eT eI))) (g_moved_on hall counter s) (f_moved_on [d_0, d_1] s) := fn_ok (π' := fun _ : Unit => nosP 4) rfl (mt_cons h_0.plain (mt_cons h_1.plain (mt_nos 2))) (ts_setE (i := 2) (te_call (ta_P (te_varP 0) fun d1 r1 => (ta_P (te_varP 1) fun d2 r2 => (ta_nil (fun s => tf_leads r1.any r2.any s))))) fun row => (at_ [.vr .pl (eT (eT eI)) hall, .vr .pl eI counter, .vr .own (eL eI) row, .no] (ts_setPlE (i := 3) (te_op (ta_P (te_var 2) fun d3 r3 => (ta_nil (x_maxL r3)))) fun most => (at_ [.vr .pl (eT (eT eI)) hall, .vr .pl eI counter, .vr .own (eL eI) row, .vr .pl eI most] (ts_one (ts_retE (te_ifp (tcp_V (tp_op (pa (te_varP 3) fun d4 r4 => (pa te_int fun d5 r5 => (pa_nil (x_eq (e := eI) r4 r5)))))) (TP.te (te_none).plain) ((te_call (ta_P (te_varP 0) fun d6 r6 => (ta_P (te_varP 1) fun d7 r7 => (ta_E (te_idxP (te_var 2) (te_varP 3)) fun y8 d8 r8 => (ta_P te_int fun d9 r9 => (ta_nil (fun s => tf_with_minute r6.any r7.any r8.any r9.any s)))))))).someP)))))))
/-- move -/
def g_move (hall : (List (List Int))) (counter : Int) : G (Option (List (List Int))) := fnT (τ := Unit) (eb (g_need_both hall counter) fun _ => (eb (g_moved_on hall counter) rtB))
theorem tf_move {hall : (List (List Int))} {counter : Int} {d_0 : D} {d_1 : D} (h_0 : Rp .any (eT (eT eI)) hall d_0) (h_1 : Rp .any eI counter d_1) (s : Sto) : Rf .pl (eO (eT (eT eI))) (g_move hall counter s) (f_move [d_0, d_1] s) := fn_ok (π' := fun _ : Unit => nosP 2) rfl (mt_cons h_0.plain (mt_cons h_1.plain (mt_nos 0))) (ts_do (te_call (ta_P (te_varP 0) fun d1 r1 => (ta_P (te_varP 1) fun d2 r2 => (ta_nil (fun s => tf_need_both r1.any r2.any s))))) (ts_one (ts_retE (te_call (ta_P (te_varP 0) fun d3 r3 => (ta_P (te_varP 1) fun d4 r4 => (ta_nil (fun s => tf_moved_on r3.any r4.any s))))))))
/-- greatest_lead -/
def g_greatest_lead (hall : (List (List Int))) (counter : Int) : G Int := fnT (τ := Unit) (eb (bd (g_leads hall counter) fun y3 => (maxT y3)) rtB)
theorem tf_greatest_lead {hall : (List (List Int))} {counter : Int} {d_0 : D} {d_1 : D} (h_0 : Rp .any (eT (eT eI)) hall d_0) (h_1 : Rp .any eI counter d_1) (s : Sto) : Rf .pl eI (g_greatest_lead hall counter s) (f_greatest_lead [d_0, d_1] s) := fn_ok (π' := fun _ : Unit => nosP 2) rfl (mt_cons h_0.plain (mt_cons h_1.plain (mt_nos 0))) (ts_one (ts_retE (te_op (ta_E (te_call (ta_P (te_varP 0) fun d1 r1 => (ta_P (te_varP 1) fun d2 r2 => (ta_nil (fun s => tf_leads r1.any r2.any s))))) fun y3 d3 r3 => (ta_nil (x_maxL r3))))))
/-- can_move_by -/
def g_can_move_by (hall : (List (List Int))) (counter : Int) : G (Int × Int) := fnT (τ := Unit) (eb (g_greatest_lead hall counter) fun on => (eb (bd (bd (bd (bd (ixT hall (counter + (1 : Int))) fun y7 => (pr y7.sum)) fun y9 => (pr (on + y9))) fun y13 => (bd (bd (ixT hall counter) fun y12 => (pr y12.sum)) fun y14 => (pr (y13 - y14)))) fun y16 => (pr (on, y16))) rtB))
theorem tf_can_move_by {hall : (List (List Int))} {counter : Int} {d_0 : D} {d_1 : D} (h_0 : Rp .any (eT (eT eI)) hall d_0) (h_1 : Rp .any eI counter d_1) (s : Sto) : Rf .pl (eP eI eI) (g_can_move_by hall counter s) (f_can_move_by [d_0, d_1] s) := fn_ok (π' := fun _ : Unit => nosP 3) rfl (mt_cons h_0.plain (mt_cons h_1.plain (mt_nos 1))) (ts_setPlE (i := 2) (te_call (ta_P (te_varP 0) fun d1 r1 => (ta_P (te_varP 1) fun d2 r2 => (ta_nil (fun s => tf_greatest_lead r1.any r2.any s))))) fun on => (at_ [.vr .pl (eT (eT eI)) hall, .vr .pl eI counter, .vr .pl eI on] (ts_one (ts_retE ((te_op (ta_P (te_varP 2) fun d15 r15 => (ta_E (te_op (ta_E (te_op (ta_P (te_varP 2) fun d8 r8 => (ta_E (te_op (ta_E (te_op (ta_P (te_varP 0) fun d5 r5 => (ta_P (tp_op (pa (te_varP 1) fun d3 r3 => (pa te_int fun d4 r4 => (pa_nil (x_addI r3 r4))))) fun d6 r6 => (ta_nil (x_ixT r5 r6))))) fun y7 d7 r7 => (ta_nil (ok_p (x_sumT r7))))) fun y9 d9 r9 => (ta_nil (ok_p (x_addI r8 r9)))))) fun y13 d13 r13 => (ta_E (te_op (ta_E (te_op (ta_P (te_varP 0) fun d10 r10 => (ta_P (te_varP 1) fun d11 r11 => (ta_nil (x_ixT r10 r11))))) fun y12 d12 r12 => (ta_nil (ok_p (x_sumT r12))))) fun y14 d14 r14 => (ta_nil (ok_p (x_sub r13 r14)))))) fun y16 d16 r16 => (ta_nil (ok_p (x_pair r15 r16))))))).plain))))
/-- moved_back -/
def g_moved_back (hall : (List (List Int))) (counter : Int) : G (Option (List (List Int))) := fnT (τ := Unit) (ifB (bd (bd (g_can_move_by hall counter) fun y3 => (pr y3.2)) fun y5 => (pr (decide (y5 = (0 : Int))))) (rtB none) (eb (g_leads hall counter) fun row => (eb (bd (bd (pr row.reverse) fun y14 => bd (maxT row) fun y15 => idxT y14 y15) fun y17 => (pr (((row.length : Int) - (1 : Int)) - y17))) fun last => (eb (bd (g_with_minute hall counter last (-(1 : Int))) fun x => pr (some x)) rtB))))
theorem tf_moved_back {hall : (List (List Int))} {counter : Int} {d_0 : D} {d_1 : D} (h_0 : Rp .any (eT (eT eI)) hall d_0) (h_1 : Rp .any eI counter d_1) (s : Sto) : Rf .pl (eO (eT (eT eI))) (g_moved_back hall counter s) (f_moved_back [d_0, d_1] s) := fn_ok (π' := fun _ : Unit => nosP 4) rfl (mt_cons h_0.plain (mt_cons h_1.plain (mt_nos 2))) (ts_ifD (tc_V (te_op (ta_E ((te_op (ta_E (te_call (ta_P (te_varP 0) fun d1 r1 => (ta_P (te_varP 1) fun d2 r2 => (ta_nil (fun s => tf_can_move_by r1.any r2.any s))))) fun y3 d3 r3 => (ta_P te_int fun d4 r4 => (ta_nil (ok_p (x_p1 r3 r4))))))).plain fun y5 d5 r5 => (ta_P te_int fun d6 r6 => (ta_nil (ok_p (x_eq (e := eI) r5 r6))))))) (ts_retP (te_none).plain) (ts_skip (ts_setE (i := 2) (te_call (ta_P (te_varP 0) fun d7 r7 => (ta_P (te_varP 1) fun d8 r8 => (ta_nil (fun s => tf_leads r7.any r8.any s))))) fun row => (at_ [.vr .pl (eT (eT eI)) hall, .vr .pl eI counter, .vr .own (eL eI) row, .no] (ts_setPlE (i := 3) (te_op (ta_P (tp_op (pa (tp_op (pa (te_var 2) fun d9 r9 => (pa_nil (x_lenL r9)))) fun d10 r10 => (pa te_int fun d11 r11 => (pa_nil (x_sub r10 r11))))) fun d16 r16 => (ta_E (te_idx (TP.te (tp_op (pa (te_var 2) fun d12 r12 => (pa_nil (x_revP r12))))) (te_op (ta_P (te_var 2) fun d13 r13 => (ta_nil (x_maxL r13))))) fun y17 d17 r17 => (ta_nil (ok_p (x_sub r16 r17)))))) fun last => (at_ [.vr .pl (eT (eT eI)) hall, .vr .pl eI counter, .vr .own (eL eI) row, .vr .pl eI last] (ts_one (ts_retE ((te_call (ta_P (te_varP 0) fun d19 r19 => (ta_P (te_varP 1) fun d20 r20 => (ta_P (te_varP 3) fun d21 r21 => (ta_P (tp_op (pa te_int fun d18 r18 => (pa_nil (x_neg r18)))) fun d22 r22 => (ta_nil (fun s => tf_with_minute r19.any r20.any r21.any r22.any s)))))))).someP))))))))
/-- back -/
def g_back (hall : (List (List Int))) (counter : Int) : G (Option (List (List Int))) := fnT (τ := Unit) (eb (g_need_both hall counter) fun _ => (eb (g_moved_back hall counter) rtB))
theorem tf_back {hall : (List (List Int))} {counter : Int} {d_0 : D} {d_1 : D} (h_0 : Rp .any (eT (eT eI)) hall d_0) (h_1 : Rp .any eI counter d_1) (s : Sto) : Rf .pl (eO (eT (eT eI))) (g_back hall counter s) (f_back [d_0, d_1] s) := fn_ok (π' := fun _ : Unit => nosP 2) rfl (mt_cons h_0.plain (mt_cons h_1.plain (mt_nos 0))) (ts_do (te_call (ta_P (te_varP 0) fun d1 r1 => (ta_P (te_varP 1) fun d2 r2 => (ta_nil (fun s => tf_need_both r1.any r2.any s))))) (ts_one (ts_retE (te_call (ta_P (te_varP 0) fun d3 r3 => (ta_P (te_varP 1) fun d4 r4 => (ta_nil (fun s => tf_moved_back r3.any r4.any s))))))))
/-- _law_minutes -/
def g__law_minutes (bag : Nat) (lot : Int) : G Int := fnT (τ := Unit) (eb (bd (bd (powT (10 : Int) (14 : Int)) fun y6 => (pr [(2 : Int), (4 : Int), (20 : Int), y6, (0 : Int)])) fun y8 => (ixT y8 lot)) fun most => (sq (τ := (Int)) (if (decide (most = (0 : Int))) = true then (eb (bd (bd (powT (10 : Int) (14 : Int)) fun y19 => (pr [(1 : Int), (2 : Int), (4 : Int), (30 : Int), y19])) fun y22 => (bd (g__law_draw bag (5 : Int)) fun y23 => (ixT y22 y23))) fun most1 => (nxB most1)) else (nxB most)) fun (v12 : (Int)) => (eb (bd (g__law_draw bag v12) fun y30 => (bd (bd (g__law_draw bag (4 : Int)) fun y29 => (pr (min (1 : Int) y29))) fun y31 => (mulT y30 y31))) rtB)))
theorem tf__law_minutes {bag : Nat} {lot : Int} {d_0 : D} {d_1 : D} (h_0 : Rp .any eBx bag d_0) (h_1 : Rp .any eI lot d_1) (s : Sto) : Rf .pl eI (g__law_minutes bag lot s) (f__law_minutes [d_0, d_1] s) := fn_ok (π' := fun _ : Unit => nosP 3) rfl (mt_cons h_0.plain (mt_cons h_1.plain (mt_nos 1))) (ts_setPlE (i := 2) ((te_op (ta_E (te_op (ta_P te_int fun d3 r3 => (ta_P te_int fun d4 r4 => (ta_P te_int fun d5 r5 => (ta_E (te_op (ta_P te_int fun d1 r1 => (ta_P te_int fun d2 r2 => (ta_nil (x_pow r1 r2))))) fun y6 d6 r6 => (ta_P te_int fun d7 r7 => (ta_nil (ok_p (x_lstP (RpL.cons r3 (RpL.cons r4 (RpL.cons r5 (RpL.cons r6 (RpL.cons r7 RpL.nil)))))))))))))) fun y8 d8 r8 => (ta_P (te_varP 1) fun d9 r9 => (ta_nil (x_ixL r8 r9)))))).plain fun most => (at_ [.vr .pl eBx bag, .vr .pl eI lot, .vr .pl eI most] (ts_sq (π' := (fun (v12 : Int) => [.vr .pl eBx bag, .vr .pl eI lot, .vr .pl eI v12])) (ts_ifp (tcp_V (tp_op (pa (te_varP 2) fun d10 r10 => (pa te_int fun d11 r11 => (pa_nil (x_eq (e := eI) r10 r11)))))) (ts_one (ts_setPlE (i := 2) ((te_op (ta_E (te_op (ta_P te_int fun d15 r15 => (ta_P te_int fun d16 r16 => (ta_P te_int fun d17 r17 => (ta_P te_int fun d18 r18 => (ta_E (te_op (ta_P te_int fun d13 r13 => (ta_P te_int fun d14 r14 => (ta_nil (x_pow r13 r14))))) fun y19 d19 r19 => (ta_nil (ok_p (x_lstP (RpL.cons r15 (RpL.cons r16 (RpL.cons r17 (RpL.cons r18 (RpL.cons r19 RpL.nil)))))))))))))) fun y22 d22 r22 => (ta_E (te_call (ta_P (te_varP 0) fun d20 r20 => (ta_P te_int fun d21 r21 => (ta_nil (fun s => tf__law_draw r20.any r21.any s))))) fun y23 d23 r23 => (ta_nil (x_ixL r22 r23)))))).plain fun most1 => (at_ [.vr .pl eBx bag, .vr .pl eI lot, .vr .pl eI most1] (ts_nil (v := most1) (wk_eq (wk_eq (wk_eq wk_nil))))))) (ts_nil (v := most) (wk_eq (wk_eq (wk_eq wk_nil))))) fun (v12 : (Int)) => (ts_one (ts_retE (te_op (ta_E (te_call (ta_P (te_varP 0) fun d24 r24 => (ta_P (te_varP 2) fun d25 r25 => (ta_nil (fun s => tf__law_draw r24.any r25.any s))))) fun y30 d30 r30 => (ta_E (te_op (ta_P te_int fun d28 r28 => (ta_E (te_call (ta_P (te_varP 0) fun d26 r26 => (ta_P te_int fun d27 r27 => (ta_nil (fun s => tf__law_draw r26.any r27.any s))))) fun y29 d29 r29 => (ta_nil (ok_p (x_min2 r28 r29)))))) fun y31 d31 r31 => (ta_nil (x_mul r30 r31))))))))))
/-- _law_hall -/
def g__law_hall_9811 (bag : Nat) (rows_upto : Int) (upto : Int) (few : Bool) : G (List (List Int)) := fnT (τ := Unit) (eb (bd (bd (g__law_draw bag rows_upto) fun y4 => (pr ((1 : Int) + y4))) fun y9 => (bd (bd (g__law_draw bag upto) fun y8 => (pr ((1 : Int) + y8))) fun y10 => (pr (y9, y10)))) fun v11 => (eb (g__law_draw bag (if few = true then (2 : Int) else (5 : Int))) fun lot => (eb (bd (bd (rangeT v11.1) fun z20 => mapG z20 (fun row => (bd (bd (rangeT v11.2) fun z18 => mapG z18 (fun k => (g__law_minutes bag lot))) fun y19 => (pr y19)))) fun y21 => (pr y21)) rtB)))
theorem tf__law_hall_9811 {bag : Nat} {rows_upto : Int} {upto : Int} {few : Bool} {d_0 : D} {d_1 : D} {d_2 : D} {d_3 : D} (h_0 : Rp .any eBx bag d_0) (h_1 : Rp .any eI rows_upto d_1) (h_2 : Rp .any eI upto d_2) (h_3 : Rp .any eB few d_3) (s : Sto) : Rf .pl (eT (eT eI)) (g__law_hall_9811 bag rows_upto upto few s) (f__law_hall_9811 [d_0, d_1, d_2, d_3] s) := fn_ok (π' := fun _ : Unit => nosP 9) rfl (mt_cons h_0.plain (mt_cons h_1.plain (mt_cons h_2.plain (mt_cons h_3.plain (mt_nos 5))))) (ts_unpQ ((te_op (ta_E (te_op (ta_P te_int fun d3 r3 => (ta_E (te_call (ta_P (te_varP 0) fun d1 r1 => (ta_P (te_varP 1) fun d2 r2 => (ta_nil (fun s => tf__law_draw r1.any r2.any s))))) fun y4 d4 r4 => (ta_nil (ok_p (x_addI r3 r4)))))) fun y9 d9 r9 => (ta_E (te_op (ta_P te_int fun d7 r7 => (ta_E (te_call (ta_P (te_varP 0) fun d5 r5 => (ta_P (te_varP 2) fun d6 r6 => (ta_nil (fun s => tf__law_draw r5.any r6.any s))))) fun y8 d8 r8 => (ta_nil (ok_p (x_addI r7 r8)))))) fun y10 d10 r10 => (ta_nil (ok_p (x_pair r9 r10))))))).plain (fun v11 => (tb_t2 (tb_nmP (i := 4)) (tb_nmP (i := 5)))) fun v11 => (at_ [.vr .pl eBx bag, .vr .pl eI rows_upto, .vr .pl eI upto, .vr .pl eB few, .vr .pl eI v11.1, .vr .pl eI v11.2, .no, .no, .no] (ts_setPlE (i := 6) (te_call (ta_P (te_varP 0) fun d12 r12 => (ta_P (tp_if (tcp_V (te_varP 3)) te_int te_int) fun d13 r13 => (ta_nil (fun s => tf__law_draw r12.any r13.any s))))) fun lot => (at_ [.vr .pl eBx bag, .vr .pl eI rows_upto, .vr .pl eI upto, .vr .pl eB few, .vr .pl eI v11.1, .vr .pl eI v11.2, .vr .pl eI lot, .no, .no] (ts_one (ts_retE ((te_op (ta_E (te_mapOE (ti_r1p (te_varP 4)) (fun row => ⟨[.vr .pl eBx bag, .vr .pl eI rows_upto, .vr .pl eI upto, .vr .pl eB few, .vr .pl eI v11.1, .vr .pl eI v11.2, .vr .pl eI lot, .no, .vr .pl eI row], (tb_nmP (i := 8)), (((te_op (ta_E (te_mapOE (ti_r1p (te_varP 5)) (fun k => ⟨[.vr .pl eBx bag, .vr .pl eI rows_upto, .vr .pl eI upto, .vr .pl eB few, .vr .pl eI v11.1, .vr .pl eI v11.2, .vr .pl eI lot, .vr .pl eI k, .vr .pl eI row], (tb_nmP (i := 7)), ((te_call (ta_P (te_varP 0) fun d16 r16 => (ta_P (te_varP 6) fun d17 r17 => (ta_nil (fun s => tf__law_minutes r16.any r17.any s)))))).own⟩)) fun y19 d19 r19 => (ta_nil (ok_p (x_tupL r19)))))).plain).own⟩)) fun y21 d21 r21 => (ta_nil (ok_p (x_tupL r21)))))).plain))))))
/-- greatest_ways -/
def g_greatest_ways (hall : (List (List Int))) (counter : Int) : G (List Int) := fnT (τ := Unit) (lt ([] : (List Int)) fun found => (lt (0 : Int) fun most => (lt (0 : Int) fun ahead => (sq (τ := (Int × Int × (List Int))) (eb (bd (g_leads hall counter) fun z7 => (bd (ixT hall (counter + (1 : Int))) fun z8 => (pr (z7.zip z8)))) fun xs => forT (fun x10 (v9 : (Int × Int × (List Int))) => (lt (max v9.1 x10.1) fun most1 => (lt (v9.2.1 + x10.2) fun ahead1 => (apB v9.2.2 (most1 + ahead1) fun found1 => (nxB (most1, ahead1, found1)))))) xs (most, ahead, found)) fun (v9 : (Int × Int × (List Int))) => (rtB v9.2.2)))))
theorem tf_greatest_ways {hall : (List (List Int))} {counter : Int} {d_0 : D} {d_1 : D} (h_0 : Rp .any (eT (eT eI)) hall d_0) (h_1 : Rp .any eI counter d_1) (s : Sto) : Rf .own (eL eI) (g_greatest_ways hall counter s) (f_greatest_ways [d_0, d_1] s) := fn_ok (π' := fun _ : Unit => nosP 7) rfl (mt_cons h_0.plain (mt_cons h_1.plain (mt_nos 5))) (ts_setP (i := 2) (tp_op (pa_nil (x_lstO (RpL.nil (k := .own) (e := eI))))) fun found => (at_ [.vr .pl (eT (eT eI)) hall, .vr .pl eI counter, .vr .own (eL eI) found, .no, .no, .no, .no] (ts_setPlP (i := 3) te_int fun most => (at_ [.vr .pl (eT (eT eI)) hall, .vr .pl eI counter, .vr .own (eL eI) found, .vr .pl eI most, .no, .no, .no] (ts_setPlP (i := 4) te_int fun ahead => (at_ [.vr .pl (eT (eT eI)) hall, .vr .pl eI counter, .vr .own (eL eI) found, .vr .pl eI most, .vr .pl eI ahead, .no, .no] (ts_sq (π' := (fun (v9 : Int × Int × (List Int)) => [.vr .pl (eT (eT eI)) hall, .vr .pl eI counter, .vr .own (eL eI) v9.2.2, .vr .pl eI v9.1, .vr .pl eI v9.2.1, .no, .no])) (ts_forE (v0 := (most, ahead, found)) (fun (v9 : Int × Int × (List Int)) => [.vr .pl (eT (eT eI)) hall, .vr .pl eI counter, .vr .own (eL eI) v9.2.2, .vr .pl eI v9.1, .vr .pl eI v9.2.1, .no, .no]) (ti_zip2 (itE_L (te_call (ta_P (te_varP 0) fun d1 r1 => (ta_P (te_varP 1) fun d2 r2 => (ta_nil (fun s => tf_leads r1.any r2.any s)))))) (itE_T (te_op (ta_P (te_varP 0) fun d5 r5 => (ta_P (tp_op (pa (te_varP 1) fun d3 r3 => (pa te_int fun d4 r4 => (pa_nil (x_addI r3 r4))))) fun d6 r6 => (ta_nil (x_ixT r5 r6))))))) (wk_eq (wk_eq (wk_eq (wk_eq (wk_eq (wk_no (wk_no wk_nil))))))) (fun x10 (v9 : (Int × Int × (List Int))) => ⟨[.vr .pl (eT (eT eI)) hall, .vr .pl eI counter, .vr .own (eL eI) v9.2.2, .vr .pl eI v9.1, .vr .pl eI v9.2.1, .vr .pl eI x10.1, .vr .pl eI x10.2], (tb_t2 (tb_nmP (i := 5)) (tb_nmP (i := 6))), (ts_setPlP (i := 3) (tp_op (pa (te_varP 3) fun d11 r11 => (pa (te_varP 5) fun d12 r12 => (pa_nil (x_max2 r11 r12))))) fun most1 => (at_ [.vr .pl (eT (eT eI)) hall, .vr .pl eI counter, .vr .own (eL eI) v9.2.2, .vr .pl eI most1, .vr .pl eI v9.2.1, .vr .pl eI x10.1, .vr .pl eI x10.2] (ts_aug 4 (te_varP 6) fun ahead1 => (at_ [.vr .pl (eT (eT eI)) hall, .vr .pl eI counter, .vr .own (eL eI) v9.2.2, .vr .pl eI most1, .vr .pl eI ahead1, .vr .pl eI x10.1, .vr .pl eI x10.2] (ts_one (ts_appP 2 ((tp_op (pa (te_varP 3) fun d15 r15 => (pa (te_varP 4) fun d16 r16 => (pa_nil (x_addI r15 r16)))))).own fun found1 => (at_ [.vr .pl (eT (eT eI)) hall, .vr .pl eI counter, .vr .own (eL eI) found1, .vr .pl eI most1, .vr .pl eI ahead1, .vr .pl eI x10.1, .vr .pl eI x10.2] (ts_nil (v := (most1, ahead1, found1)) (wk_eq (wk_eq (wk_eq (wk_eq (wk_eq (wk_no (wk_no wk_nil)))))))))))))))⟩)) fun (v9 : (Int × Int × (List Int))) => (ts_one (ts_retV 2)))))))))
/-- with_total_of -/
def g_with_total_of (hall : (List (List Int))) (counter : Int) (total : Int) : G (List (List Int)) := fnT (τ := Unit) (eb (bd (g_greatest_ways hall counter) fun y5 => (catT [(0 : Int)] y5)) fun ways => (lt ([] : (List Int)) fun here => (lt ([] : (List Int)) fun there => (sq (τ := ((List Int) × (List Int) × Int)) (eb (bd (bd (bd (ixT hall counter) fun y8 => (pr (y8.length : Int))) fun y9 => (pr (y9 - (1 : Int)))) fun i13 => bd (pr (-(1 : Int))) fun j14 => rangeT3 i13 j14) fun xs => forT (fun customer (v15 : ((List Int) × (List Int) × Int)) => (eb (bd (bd (ixT hall counter) fun y19 => (ixT y19 customer)) fun y27 => (bd (bd (ixT hall (counter + (1 : Int))) fun y25 => (ixT y25 customer)) fun y28 => (pr (y27 + y28)))) fun both => (eb (bd (ixT ways (customer + (1 : Int))) fun y47 => (bd (bd (ixT ways customer) fun y45 => (pr (max y45 v15.2.2))) fun y48 => (pr (y47 - y48)))) fun y64 => apB v15.1 y64 fun there1 => (eb (bd (ixT there1 (-(1 : Int))) fun y58 => (pr (both - y58))) fun y63 => apB v15.2.1 y63 fun here1 => (eb (ixT here1 (-(1 : Int))) fun y62 => lt (v15.2.2 - y62) fun total1 => (nxB (there1, here1, total1))))))) xs (there, here, total)) fun (v15 : ((List Int) × (List Int) × Int)) => (eb (g_with_rows hall counter v15.2.1.reverse v15.1.reverse) rtB)))))
theorem tf_with_total_of {hall : (List (List Int))} {counter : Int} {total : Int} {d_0 : D} {d_1 : D} {d_2 : D} (h_0 : Rp .any (eT (eT eI)) hall d_0) (h_1 : Rp .any eI counter d_1) (h_2 : Rp .any eI total d_2) (s : Sto) : Rf .pl (eT (eT eI)) (g_with_total_of hall counter total s) (f_with_total_of [d_0, d_1, d_2] s) := fn_ok (π' := fun _ : Unit => nosP 8) rfl (mt_cons h_0.plain (mt_cons h_1.plain (mt_cons h_2.plain (mt_nos 5)))) (ts_setE (i := 3) (te_op (ta_P (tp_op (pa te_int fun d1 r1 => (pa_nil (x_lstP (RpL.cons r1 RpL.nil))))) fun d4 r4 => (ta_E (te_call (ta_P (te_varP 0) fun d2 r2 => (ta_P (te_varP 1) fun d3 r3 => (ta_nil (fun s => tf_greatest_ways r2.any r3.any s))))) fun y5 d5 r5 => (ta_nil (x_catP r4 r5))))) fun ways => (at_ [.vr .pl (eT (eT eI)) hall, .vr .pl eI counter, .vr .pl eI total, .vr .own (eL eI) ways, .no, .no, .no, .no] (ts_setP (i := 4) (tp_op (pa_nil (x_lstO (RpL.nil (k := .own) (e := eI))))) fun here => (at_ [.vr .pl (eT (eT eI)) hall, .vr .pl eI counter, .vr .pl eI total, .vr .own (eL eI) ways, .vr .own (eL eI) here, .no, .no, .no] (ts_setP (i := 5) (tp_op (pa_nil (x_lstO (RpL.nil (k := .own) (e := eI))))) fun there => (at_ [.vr .pl (eT (eT eI)) hall, .vr .pl eI counter, .vr .pl eI total, .vr .own (eL eI) ways, .vr .own (eL eI) here, .vr .own (eL eI) there, .no, .no] (ts_sq (π' := (fun (v15 : (List Int) × (List Int) × Int) => [.vr .pl (eT (eT eI)) hall, .vr .pl eI counter, .vr .pl eI v15.2.2, .vr .own (eL eI) ways, .vr .own (eL eI) v15.2.1, .vr .own (eL eI) v15.1, .no, .no])) (ts_forP (v0 := (there, here, total)) (fun (v15 : (List Int) × (List Int) × Int) => [.vr .pl (eT (eT eI)) hall, .vr .pl eI counter, .vr .pl eI v15.2.2, .vr .own (eL eI) ways, .vr .own (eL eI) v15.2.1, .vr .own (eL eI) v15.1, .no, .no]) (ti_r3 (te_op (ta_E (te_op (ta_E (te_op (ta_P (te_varP 0) fun d6 r6 => (ta_P (te_varP 1) fun d7 r7 => (ta_nil (x_ixT r6 r7))))) fun y8 d8 r8 => (ta_nil (ok_p (x_lenT r8))))) fun y9 d9 r9 => (ta_P te_int fun d10 r10 => (ta_nil (ok_p (x_sub r9 r10)))))) (TP.te (tp_op (pa te_int fun d11 r11 => (pa_nil (x_neg r11))))) (tp_op (pa te_int fun d12 r12 => (pa_nil (x_neg r12))))) (wk_eq (wk_eq (wk_eq (wk_eq (wk_eq (wk_eq (wk_no (wk_no wk_nil)))))))) (fun customer (v15 : ((List Int) × (List Int) × Int)) => ⟨[.vr .pl (eT (eT eI)) hall, .vr .pl eI counter, .vr .pl eI v15.2.2, .vr .own (eL eI) ways, .vr .own (eL eI) v15.2.1, .vr .own (eL eI) v15.1, .vr .pl eI customer, .no], (tb_nmP (i := 6)), (ts_setPlE (i := 7) (te_op (ta_E (te_op (ta_E (te_op (ta_P (te_varP 0) fun d17 r17 => (ta_P (te_varP 1) fun d18 r18 => (ta_nil (x_ixT r17 r18))))) fun y19 d19 r19 => (ta_P (te_varP 6) fun d20 r20 => (ta_nil (x_ixT r19 r20))))) fun y27 d27 r27 => (ta_E (te_op (ta_E (te_op (ta_P (te_varP 0) fun d23 r23 => (ta_P (tp_op (pa (te_varP 1) fun d21 r21 => (pa te_int fun d22 r22 => (pa_nil (x_addI r21 r22))))) fun d24 r24 => (ta_nil (x_ixT r23 r24))))) fun y25 d25 r25 => (ta_P (te_varP 6) fun d26 r26 => (ta_nil (x_ixT r25 r26))))) fun y28 d28 r28 => (ta_nil (ok_p (x_addI r27 r28)))))) fun both => (at_ [.vr .pl (eT (eT eI)) hall, .vr .pl eI counter, .vr .pl eI v15.2.2, .vr .own (eL eI) ways, .vr .own (eL eI) v15.2.1, .vr .own (eL eI) v15.1, .vr .pl eI customer, .vr .pl eI both] (ts_appE 5 ((te_op (ta_E ((te_op (ta_P (te_var 3) fun d41 r41 => (ta_P (tp_op (pa (te_varP 6) fun d39 r39 => (pa te_int fun d40 r40 => (pa_nil (x_addI r39 r40))))) fun d42 r42 => (ta_nil (x_ixL r41 r42)))))).plain fun y47 d47 r47 => (ta_E (te_op (ta_E ((te_op (ta_P (te_var 3) fun d43 r43 => (ta_P (te_varP 6) fun d44 r44 => (ta_nil (x_ixL r43 r44)))))).plain fun y45 d45 r45 => (ta_P (te_varP 2) fun d46 r46 => (ta_nil (ok_p (x_max2 r45 r46)))))) fun y48 d48 r48 => (ta_nil (ok_p (x_sub r47 r48))))))).own fun there1 => (at_ [.vr .pl (eT (eT eI)) hall, .vr .pl eI counter, .vr .pl eI v15.2.2, .vr .own (eL eI) ways, .vr .own (eL eI) v15.2.1, .vr .own (eL eI) there1, .vr .pl eI customer, .vr .pl eI both] (ts_appE 4 ((te_op (ta_P (te_varP 7) fun d57 r57 => (ta_E ((te_op (ta_P (te_var 5) fun d55 r55 => (ta_P (tp_op (pa te_int fun d54 r54 => (pa_nil (x_neg r54)))) fun d56 r56 => (ta_nil (x_ixL r55 r56)))))).plain fun y58 d58 r58 => (ta_nil (ok_p (x_sub r57 r58))))))).own fun here1 => (at_ [.vr .pl (eT (eT eI)) hall, .vr .pl eI counter, .vr .pl eI v15.2.2, .vr .own (eL eI) ways, .vr .own (eL eI) here1, .vr .own (eL eI) there1, .vr .pl eI customer, .vr .pl eI both] (ts_one (ts_augE 2 ((te_op (ta_P (te_var 4) fun d60 r60 => (ta_P (tp_op (pa te_int fun d59 r59 => (pa_nil (x_neg r59)))) fun d61 r61 => (ta_nil (x_ixL r60 r61)))))).plain fun total1 => (at_ [.vr .pl (eT (eT eI)) hall, .vr .pl eI counter, .vr .pl eI total1, .vr .own (eL eI) ways, .vr .own (eL eI) here1, .vr .own (eL eI) there1, .vr .pl eI customer, .vr .pl eI both] (ts_nil (v := (there1, here1, total1)) (wk_eq (wk_eq (wk_eq (wk_eq (wk_eq (wk_eq (wk_no (wk_no wk_nil))))))))))))))))))⟩)) fun (v15 : ((List Int) × (List Int) × Int)) => (ts_one (ts_retE (te_call (ta_P (te_varP 0) fun d67 r67 => (ta_P (te_varP 1) fun d68 r68 => (ta_P (tp_op (pa (te_var 4) fun d65 r65 => (pa_nil (x_revP r65)))) fun d69 r69 => (ta_P (tp_op (pa (te_var 5) fun d66 r66 => (pa_nil (x_revP r66)))) fun d70 r70 => (ta_nil (fun s => tf_with_rows r67.any r68.any r69.any r70.any s))))))))))))))))
/-- moved_by -/
def g_moved_by (hall : (List (List Int))) (counter : Int) (many : Int) : G (Option (List (List Int))) := fnT (τ := Unit) (eb (g_can_move_by hall counter) fun v3 => (if ((decide (v3.1 < many)) || (decide (many < ((0 : Int) - v3.2)))) = true then (rtB none) else (eb (bd (bd (bd (bd (ixT hall counter) fun y12 => (pr y12.sum)) fun y13 => (pr (y13 - many))) fun y17 => (g_with_total_of hall counter y17)) fun x => pr (some x)) rtB)))
theorem tf_moved_by {hall : (List (List Int))} {counter : Int} {many : Int} {d_0 : D} {d_1 : D} {d_2 : D} (h_0 : Rp .any (eT (eT eI)) hall d_0) (h_1 : Rp .any eI counter d_1) (h_2 : Rp .any eI many d_2) (s : Sto) : Rf .pl (eO (eT (eT eI))) (g_moved_by hall counter many s) (f_moved_by [d_0, d_1, d_2] s) := fn_ok (π' := fun _ : Unit => nosP 5) rfl (mt_cons h_0.plain (mt_cons h_1.plain (mt_cons h_2.plain (mt_nos 2)))) (ts_unpQ (te_call (ta_P (te_varP 0) fun d1 r1 => (ta_P (te_varP 1) fun d2 r2 => (ta_nil (fun s => tf_can_move_by r1.any r2.any s))))) (fun v3 => (tb_t2 (tb_nmP (i := 3)) (tb_nmP (i := 4)))) fun v3 => (at_ [.vr .pl (eT (eT eI)) hall, .vr .pl eI counter, .vr .pl eI many, .vr .pl eI v3.1, .vr .pl eI v3.2] (ts_ifDp (tcp_or (tcp_V (tp_op (pa (te_varP 2) fun d8 r8 => (pa (te_varP 3) fun d9 r9 => (pa_nil (x_gt r8 r9)))))) (tcp_V (tp_op (pa (te_varP 2) fun d6 r6 => (pa (tp_op (pa te_int fun d4 r4 => (pa (te_varP 4) fun d5 r5 => (pa_nil (x_sub r4 r5))))) fun d7 r7 => (pa_nil (x_lt r6 r7))))))) (ts_retP (te_none).plain) (ts_skip (ts_one (ts_retE ((te_call (ta_P (te_varP 0) fun d15 r15 => (ta_P (te_varP 1) fun d16 r16 => (ta_E (te_op (ta_E (te_op (ta_E (te_op (ta_P (te_varP 0) fun d10 r10 => (ta_P (te_varP 1) fun d11 r11 => (ta_nil (x_ixT r10 r11))))) fun y12 d12 r12 => (ta_nil (ok_p (x_sumT r12))))) fun y13 d13 r13 => (ta_P (te_varP 2) fun d14 r14 => (ta_nil (ok_p (x_sub r13 r14)))))) fun y17 d17 r17 => (ta_nil (fun s => tf_with_total_of r15.any r16.any r17.any s))))))).someP))))))
/-- moved -/
def g_moved (hall : (List (List Int))) (counter : Int) (many : Int) : G (Option (List (List Int))) := fnT (τ := Unit) (eb (g_need_both hall counter) fun _ => (ifB (notG (g_is_whole (eI.f many))) badB (eb (g_moved_by hall counter many) rtB)))
theorem tf_moved {hall : (List (List Int))} {counter : Int} {many : Int} {d_0 : D} {d_1 : D} {d_2 : D} (h_0 : Rp .any (eT (eT eI)) hall d_0) (h_1 : Rp .any eI counter d_1) (h_2 : Rp .any eI many d_2) (s : Sto) : Rf .pl (eO (eT (eT eI))) (g_moved hall counter many s) (f_moved [d_0, d_1, d_2] s) := fn_ok (π' := fun _ : Unit => nosP 3) rfl (mt_cons h_0.plain (mt_cons h_1.plain (mt_cons h_2.plain (mt_nos 0)))) (ts_do (te_call (ta_P (te_varP 0) fun d1 r1 => (ta_P (te_varP 1) fun d2 r2 => (ta_nil (fun s => tf_need_both r1.any r2.any s))))) (ts_ifD (tc_not (tc_V (te_call (ta_P (TP.asXp (te_varP 2)) fun d3 r3 => (ta_nil (fun s => tf_is_whole r3 s)))))) ts_bad (ts_skip (ts_one (ts_retE (te_call (ta_P (te_varP 0) fun d4 r4 => (ta_P (te_varP 1) fun d5 r5 => (ta_P (te_varP 2) fun d6 r6 => (ta_nil (fun s => tf_moved_by r4.any r5.any r6.any s)))))))))))
/-- can_move -/
def g_can_move (hall : (List (List Int))) (counter : Int) : G (Int × Int) := fnT (τ := Unit) (eb (g_need_both hall counter) fun _ => (eb (g_can_move_by hall counter) rtB))
theorem tf_can_move {hall : (List (List Int))} {counter : Int} {d_0 : D} {d_1 : D} (h_0 : Rp .any (eT (eT eI)) hall d_0) (h_1 : Rp .any eI counter d_1) (s : Sto) : Rf .pl (eP eI eI) (g_can_move hall counter s) (f_can_move [d_0, d_1] s) := fn_ok (π' := fun _ : Unit => nosP 2) rfl (mt_cons h_0.plain (mt_cons h_1.plain (mt_nos 0))) (ts_do (te_call (ta_P (te_varP 0) fun d1 r1 => (ta_P (te_varP 1) fun d2 r2 => (ta_nil (fun s => tf_need_both r1.any r2.any s))))) (ts_one (ts_retE (te_call (ta_P (te_varP 0) fun d3 r3 => (ta_P (te_varP 1) fun d4 r4 => (ta_nil (fun s => tf_can_move_by r3.any r4.any s))))))))
@[irreducible] def g__law_alike (x0 : D) (x1 : D) : G Bool := fun s => match f__law_alike [fz x0, fz x1] s with
  | .ok (.bl r) s => .ok r s
  | .ex x s => .ex x s
  | _ => .bad
end Zm
set_option Elab.async false
set_option linter.all false
set_option maxRecDepth 100000
set_option maxHeartbeats 4000000
set_option autoImplicit false
namespace Zm
open PySem
/-- _law_no_hall -/
def g__law_no_hall (bag : Nat) : G D := fnT (τ := Unit) (lt [D.non, ((eT eI).f ([] : (List Int))), ((eT (eT eI)).f [([] : (List Int))]), ((eL (eP eI eI)).f [((1 : Int), (2 : Int))]), ((eT (eL eI)).f [[(1 : Int), (2 : Int)]]), ((eP (eP eI eI) (eT eI)).f (((1 : Int), (2 : Int)), [(1 : Int)])), ((eT (eT eI)).f [[(-(1 : Int))]]), ((eT (eT eB)).f [[true]]), ((eT (eT eS)).f [[("1" : Str)]]), (eI.f (3 : Int)), ((eT (eP eI (eO eI))).f [((1 : Int), none)])] fun some1 => (eb (bd (bd (bd (repsT [[(1 : Int)]] (9 : Int)) fun x => pr ((eT (eT eI)).f x)) fun y58 => (bd (bd (bd (repsT [(1 : Int)] (9 : Int)) fun y55 => (pr [y55])) fun x => pr ((eT (eT eI)).f x)) fun y59 => (pr [y58, y59, (D.dic false false [] []), ((eP eI eI).f ((1 : Int), (2 : Int)))]))) fun y63 => (catT some1 y63)) fun some2 => (eb (bd (g__law_draw bag (15 : Int)) fun y67 => (ixT some2 y67)) rtB)))
theorem tf__law_no_hall {bag : Nat} {d_0 : D} (h_0 : Rp .any eBx bag d_0) (s : Sto) : Rf .fro eX (g__law_no_hall bag s) (f__law_no_hall [d_0] s) := fn_ok (π' := fun _ : Unit => nosP 2) rfl (mt_cons h_0.plain (mt_nos 1)) (ts_setAP (i := 1) (tp_op (pa (te_nonX).any fun d23 r23 => (pa ((TP.asXp ((tp_op (pa_nil (x_tup (RpL.nil (k := .pl) (e := eI)))))).plain)).any fun d24 r24 => (pa ((TP.asXp ((tp_op (pa ((tp_op (pa_nil (x_tup (RpL.nil (k := .pl) (e := eI)))))).plain fun d1 r1 => (pa_nil (x_tup (RpL.cons r1 RpL.nil)))))).plain)).any fun d25 r25 => (pa ((TP.asX (tp_op (pa ((tp_op (pa te_int fun d2 r2 => (pa te_int fun d3 r3 => (pa_nil (x_pair r2 r3)))))).plain fun d4 r4 => (pa_nil (x_lstP (RpL.cons r4 RpL.nil))))))).any fun d26 r26 => (pa ((TP.asX (tp_op (pa (tp_op (pa te_int fun d5 r5 => (pa te_int fun d6 r6 => (pa_nil (x_lstP (RpL.cons r5 (RpL.cons r6 RpL.nil))))))) fun d7 r7 => (pa_nil (x_tup (RpL.cons r7 RpL.nil))))))).any fun d27 r27 => (pa ((TP.asXp ((tp_op (pa ((tp_op (pa te_int fun d8 r8 => (pa te_int fun d9 r9 => (pa_nil (x_pair r8 r9)))))).plain fun d11 r11 => (pa ((tp_op (pa te_int fun d10 r10 => (pa_nil (x_tup (RpL.cons r10 RpL.nil)))))).plain fun d12 r12 => (pa_nil (x_pair r11 r12)))))).plain)).any fun d28 r28 => (pa ((TP.asXp ((tp_op (pa ((tp_op (pa (tp_op (pa te_int fun d13 r13 => (pa_nil (x_neg r13)))) fun d14 r14 => (pa_nil (x_tup (RpL.cons r14 RpL.nil)))))).plain fun d15 r15 => (pa_nil (x_tup (RpL.cons r15 RpL.nil)))))).plain)).any fun d29 r29 => (pa ((TP.asXp ((tp_op (pa ((tp_op (pa te_bl fun d16 r16 => (pa_nil (x_tup (RpL.cons r16 RpL.nil)))))).plain fun d17 r17 => (pa_nil (x_tup (RpL.cons r17 RpL.nil)))))).plain)).any fun d30 r30 => (pa ((TP.asXp ((tp_op (pa ((tp_op (pa te_str fun d18 r18 => (pa_nil (x_tup (RpL.cons r18 RpL.nil)))))).plain fun d19 r19 => (pa_nil (x_tup (RpL.cons r19 RpL.nil)))))).plain)).any fun d31 r31 => (pa ((TP.asXp te_int)).any fun d32 r32 => (pa ((TP.asXp ((tp_op (pa ((tp_op (pa te_int fun d20 r20 => (pa (te_none).plain fun d21 r21 => (pa_nil (x_pair r20 r21)))))).plain fun d22 r22 => (pa_nil (x_tup (RpL.cons r22 RpL.nil)))))).plain)).any fun d33 r33 => (pa_nil (x_lstA (RpL.cons r23 (RpL.cons r24 (RpL.cons r25 (RpL.cons r26 (RpL.cons r27 (RpL.cons r28 (RpL.cons r29 (RpL.cons r30 (RpL.cons r31 (RpL.cons r32 (RpL.cons r33 RpL.nil))))))))))))))))))))))))) fun some1 => (at_ [.vr .pl eBx bag, .vr .any (eL eX) some1] (ts_setAE (i := 1) (te_op (ta_P (te_var 1) fun d62 r62 => (ta_E (te_op (ta_E ((TE.asXp ((te_op (ta_P ((tp_op (pa ((tp_op (pa te_int fun d48 r48 => (pa_nil (x_tup (RpL.cons r48 RpL.nil)))))).plain fun d49 r49 => (pa_nil (x_tup (RpL.cons r49 RpL.nil)))))).plain fun d50 r50 => (ta_P te_int fun d51 r51 => (ta_nil (x_reps r50 r51)))))).plain)).any fun y58 d58 r58 => (ta_E ((TE.asXp ((te_op (ta_E ((te_op (ta_P ((tp_op (pa te_int fun d52 r52 => (pa_nil (x_tup (RpL.cons r52 RpL.nil)))))).plain fun d53 r53 => (ta_P te_int fun d54 r54 => (ta_nil (x_reps r53 r54)))))).plain fun y55 d55 r55 => (ta_nil (ok_p (x_tup (RpL.cons r55 RpL.nil))))))).plain)).any fun y59 d59 r59 => (ta_P (te_dicX).any fun d60 r60 => (ta_P ((TP.asXp ((tp_op (pa te_int fun d56 r56 => (pa te_int fun d57 r57 => (pa_nil (x_pair r56 r57)))))).plain)).any fun d61 r61 => (ta_nil (ok_p (x_lstA (RpL.cons r58 (RpL.cons r59 (RpL.cons r60 (RpL.cons r61 RpL.nil)))))))))))) fun y63 d63 r63 => (ta_nil (x_catL r62 r63))))) fun some2 => (at_ [.vr .pl eBx bag, .vr .any (eL eX) some2] (ts_one (ts_retE (te_op (ta_P (te_var 1) fun d66 r66 => (ta_E (te_call (ta_P (te_varP 0) fun d64 r64 => (ta_P te_int fun d65 r65 => (ta_nil (fun s => tf__law_draw r64.any r65.any s))))) fun y67 d67 r67 => (ta_nil (x_ixL r66 r67)))))))))))
/-- _law_no_number -/
def g__law_no_number (bag : Nat) (size : Int) : G D := fnT (τ := Unit) (eb (bd (bd (bd (bd (powT (10 : Int) (9 : Int)) fun y7 => (pr (size + y7))) fun x => pr (eI.f x)) fun y15 => (pr [(eI.f size), (eI.f (-(1 : Int))), D.non, (eB.f true), (eS.f ("0" : Str)), ((eT eI).f [(0 : Int)]), ((eL eI).f [(0 : Int)]), y15])) fun y18 => (bd (g__law_draw bag (8 : Int)) fun y19 => (ixT y18 y19))) rtB)
theorem tf__law_no_number {bag : Nat} {size : Int} {d_0 : D} {d_1 : D} (h_0 : Rp .any eBx bag d_0) (h_1 : Rp .any eI size d_1) (s : Sto) : Rf .any eX (g__law_no_number bag size s) (f__law_no_number [d_0, d_1] s) := fn_ok (π' := fun _ : Unit => nosP 2) rfl (mt_cons h_0.plain (mt_cons h_1.plain (mt_nos 0))) (ts_one (ts_retE (te_op (ta_E (te_op (ta_P ((TP.asXp (te_varP 1))).any fun d8 r8 => (ta_P ((TP.asXp (tp_op (pa te_int fun d1 r1 => (pa_nil (x_neg r1)))))).any fun d9 r9 => (ta_P (te_nonX).any fun d10 r10 => (ta_P ((TP.asXp te_bl)).any fun d11 r11 => (ta_P ((TP.asXp te_str)).any fun d12 r12 => (ta_P ((TP.asXp ((tp_op (pa te_int fun d2 r2 => (pa_nil (x_tup (RpL.cons r2 RpL.nil)))))).plain)).any fun d13 r13 => (ta_P ((TP.asX (tp_op (pa te_int fun d3 r3 => (pa_nil (x_lstP (RpL.cons r3 RpL.nil))))))).any fun d14 r14 => (ta_E ((TE.asXp (te_op (ta_P (te_varP 1) fun d6 r6 => (ta_E (te_op (ta_P te_int fun d4 r4 => (ta_P te_int fun d5 r5 => (ta_nil (x_pow r4 r5))))) fun y7 d7 r7 => (ta_nil (ok_p (x_addI r6 r7)))))))).any fun y15 d15 r15 => (ta_nil (ok_p (x_lstA (RpL.cons r8 (RpL.cons r9 (RpL.cons r10 (RpL.cons r11 (RpL.cons r12 (RpL.cons r13 (RpL.cons r14 (RpL.cons r15 RpL.nil)))))))))))))))))))) fun y18 d18 r18 => (ta_E (te_call (ta_P (te_varP 0) fun d16 r16 => (ta_P te_int fun d17 r17 => (ta_nil (fun s => tf__law_draw r16.any r17.any s))))) fun y19 d19 r19 => (ta_nil (x_ixL r18 r19)))))))
def g__law_said_e0aax (x0 : Int) (x1 : D) : G (List Str) := fun s => match f__law_said_e0aax [.int x0, fz x1] s with
  | .ok r s => match strsL r with
    | some l => .ok l s
    | none => .bad
  | .ex x s => .ex x s
  | _ => .bad
theorem tf__law_said_e0aax {x0 : Int} {x1 : D} {d_0 : D} {d_1 : D} (h_0 : Rp .any eI x0 d_0) (h_1 : Rp .fro eX x1 d_1) (s : Sto) : Rf .any (eL eS) (g__law_said_e0aax x0 x1 s) (f__law_said_e0aax [d_0, d_1] s) := by
  rw [h_0.int]; rw [h_1.froX]
  unfold g__law_said_e0aax
  cases f__law_said_e0aax [.int x0, fz x1] s with
  | ok d s1 =>
    show Rf .any (eL eS) (match strsL d with
      | some l => .ok l s1
      | none => .bad) (.ok d s1)
    cases e : strsL d with
    | none => trivial
    | some l => exact ⟨_, rfl, strsL_eq e, trivial⟩
  | ex x s1 => exact rfl
  | bad => trivial
/-- law -/
def g_law (script : (List Int)) : G Bool := fnT (τ := Unit) (sq (τ := (Unit)) (eb (rangeT (max (1 : Int) (min (6 : Int) (script.length : Int)))) fun xs => forT (fun k (v6 : (Unit)) => (eb (bd (bd (g__law_cell_at script k) fun y10 => (pr (y10 + (4 : Int)))) fun y12 => (g__law_bag y12)) fun bag => (eb (g__law_hall_9811 bag (6 : Int) (8 : Int) false) fun rooms => (eb (g__law_no_hall bag) fun bad_hall => (eb (g__law_no_number bag ((rooms.length : Int) - (1 : Int))) fun bad_i => (eb (bd (g__law_draw bag (6 : Int)) fun y34 => (ixT [D.non, (eB.f true), (eS.f ("1" : Str)), ((eT eI).f [(1 : Int)]), ((eL eI).f [(0 : Int)]), (eB.f false)] y34)) fun bad_many => (sq (τ := (Unit)) (eb (rangeT (4 : Int)) fun xs => forT (fun door (v35 : (Unit)) => (lt [(((eP3 eX eX eX).f (bad_hall, bad_i, bad_many)), ("NoHall" : Str)), (((eP3 (eT (eT eI)) eX eX).f (rooms, bad_i, bad_many)), ("NoCounter" : Str))] fun asks => (apB asks (((eP3 (eT (eT eI)) eI eI).f (rooms, ((rooms.length : Int) - (1 : Int)), (0 : Int))), ("NoCounter" : Str)) fun asks1 => (sq (τ := ((List (D × Str)))) (if ((decide (door = (3 : Int))) && (decide ((1 : Int) < (rooms.length : Int)))) = true then (apB asks1 (((eP3 (eT (eT eI)) eI eX).f (rooms, (0 : Int), bad_many)), ("NoNumber" : Str)) fun asks2 => (nxB asks2)) else (nxB asks1)) fun (v62 : ((List (D × Str)))) => (sq (τ := (Unit)) (forT (fun x70 (v69 : (Unit)) => (eb (reprZ (eX.f x70.1)) fun before => (ifB (orG (bd (g__law_said_e0aax door x70.1) fun y79 => (neX ((eL eS).f y79) ((eL eS).f [x70.2, ("value" : Str)]))) (bd (reprZ (eX.f x70.1)) fun y73 => (neX (eS.f y73) (eS.f before)))) (rtB false) (nxB ())))) v62 ()) fun (v69 : (Unit)) => (sq (τ := (Unit)) (eb (rangeT ((rooms.length : Int) - (1 : Int))) fun xs => forT (fun i (v84 : (Unit)) => (ifB (bd (bd (bd (bd (bd (powT (10 : Int) (14 : Int)) fun y90 => (pr (rooms, i, y90))) fun x => pr ((eP3 (eT (eT eI)) eI eI).f x)) fun y92 => (g__law_said_e0aax door y92)) fun y101 => (bd (bd (bd (bd (bd (powT (10 : Int) (14 : Int)) fun y95 => (pr (-y95))) fun y98 => (pr (rooms, i, y98))) fun x => pr ((eP3 (eT (eT eI)) eI eI).f x)) fun y100 => (g__law_said_e0aax door y100)) fun y102 => (catT y101 y102))) fun y103 => (neX ((eL eS).f y103) ((eL eS).f ([] : (List Str))))) (rtB false) (nxB ()))) xs ()) fun (v84 : (Unit)) => (nxB ()))))))) xs ()) fun (v35 : (Unit)) => (nxB ())))))))) xs ()) fun (v6 : (Unit)) => (rtB true))
theorem tf_law {script : (List Int)} {d_0 : D} (h_0 : Rp .any eRo script d_0) (s : Sto) : Rf .pl eB (g_law script s) (f_law [d_0] s) := fn_ok (π' := fun _ : Unit => nosP 13) rfl (mt_cons h_0.plain (mt_nos 12)) (ts_sq (π' := (fun (v6 : Unit) => [.vr .pl eRo script, .no, .no, .no, .no, .no, .no, .no, .no, .no, .no, .no, .no])) (ts_forP (v0 := ()) (fun (v6 : Unit) => [.vr .pl eRo script, .no, .no, .no, .no, .no, .no, .no, .no, .no, .no, .no, .no]) (ti_r1p (tp_op (pa te_int fun d4 r4 => (pa (tp_op (pa te_int fun d2 r2 => (pa (tp_op (pa (te_varP 0) fun d1 r1 => (pa_nil (x_lenR r1)))) fun d3 r3 => (pa_nil (x_min2 r2 r3))))) fun d5 r5 => (pa_nil (x_max2 r4 r5)))))) (wk_eq (wk_no (wk_no (wk_no (wk_no (wk_no (wk_no (wk_no (wk_no (wk_no (wk_no (wk_no (wk_no wk_nil))))))))))))) (fun k (v6 : (Unit)) => ⟨[.vr .pl eRo script, .vr .pl eI k, .no, .no, .no, .no, .no, .no, .no, .no, .no, .no, .no], (tb_nmP (i := 1)), (ts_setPlE (i := 2) (te_call (ta_E (te_op (ta_E (te_call (ta_P (te_varP 0) fun d8 r8 => (ta_P (te_varP 1) fun d9 r9 => (ta_nil (fun s => tf__law_cell_at r8.any r9.any s))))) fun y10 d10 r10 => (ta_P te_int fun d11 r11 => (ta_nil (ok_p (x_addI r10 r11)))))) fun y12 d12 r12 => (ta_nil (fun s => tf__law_bag r12.any s)))) fun bag => (at_ [.vr .pl eRo script, .vr .pl eI k, .vr .pl eBx bag, .no, .no, .no, .no, .no, .no, .no, .no, .no, .no] (ts_setPlE (i := 3) (te_call (ta_P (te_varP 2) fun d13 r13 => (ta_P te_int fun d14 r14 => (ta_P te_int fun d15 r15 => (ta_P te_bl fun d16 r16 => (ta_nil (fun s => tf__law_hall_9811 r13.any r14.any r15.any r16.any s))))))) fun rooms => (at_ [.vr .pl eRo script, .vr .pl eI k, .vr .pl eBx bag, .vr .pl (eT (eT eI)) rooms, .no, .no, .no, .no, .no, .no, .no, .no, .no] (ts_setAE (i := 4) (te_call (ta_P (te_varP 2) fun d17 r17 => (ta_nil (fun s => tf__law_no_hall r17.any s)))) fun bad_hall => (at_ [.vr .pl eRo script, .vr .pl eI k, .vr .pl eBx bag, .vr .pl (eT (eT eI)) rooms, .vr .any eX bad_hall, .no, .no, .no, .no, .no, .no, .no, .no] (ts_setAE (i := 5) (te_call (ta_P (te_varP 2) fun d21 r21 => (ta_P (tp_op (pa (tp_op (pa (te_varP 3) fun d18 r18 => (pa_nil (x_lenT r18)))) fun d19 r19 => (pa te_int fun d20 r20 => (pa_nil (x_sub r19 r20))))) fun d22 r22 => (ta_nil (fun s => tf__law_no_number r21.any r22.any s))))) fun bad_i => (at_ [.vr .pl eRo script, .vr .pl eI k, .vr .pl eBx bag, .vr .pl (eT (eT eI)) rooms, .vr .any eX bad_hall, .vr .any eX bad_i, .no, .no, .no, .no, .no, .no, .no] (ts_setAE (i := 6) (te_op (ta_P (tp_op (pa (te_nonX).any fun d25 r25 => (pa ((TP.asXp te_bl)).any fun d26 r26 => (pa ((TP.asXp te_str)).any fun d27 r27 => (pa ((TP.asXp ((tp_op (pa te_int fun d23 r23 => (pa_nil (x_tup (RpL.cons r23 RpL.nil)))))).plain)).any fun d28 r28 => (pa ((TP.asX (tp_op (pa te_int fun d24 r24 => (pa_nil (x_lstP (RpL.cons r24 RpL.nil))))))).any fun d29 r29 => (pa ((TP.asXp te_bl)).any fun d30 r30 => (pa_nil (x_lstA (RpL.cons r25 (RpL.cons r26 (RpL.cons r27 (RpL.cons r28 (RpL.cons r29 (RpL.cons r30 RpL.nil))))))))))))))) fun d33 r33 => (ta_E (te_call (ta_P (te_varP 2) fun d31 r31 => (ta_P te_int fun d32 r32 => (ta_nil (fun s => tf__law_draw r31.any r32.any s))))) fun y34 d34 r34 => (ta_nil (x_ixL r33 r34))))) fun bad_many => (at_ [.vr .pl eRo script, .vr .pl eI k, .vr .pl eBx bag, .vr .pl (eT (eT eI)) rooms, .vr .any eX bad_hall, .vr .any eX bad_i, .vr .any eX bad_many, .no, .no, .no, .no, .no, .no] (ts_one (ts_sq (π' := (fun (v35 : Unit) => [.vr .pl eRo script, .vr .pl eI k, .vr .pl eBx bag, .vr .pl (eT (eT eI)) rooms, .vr .any eX bad_hall, .vr .any eX bad_i, .vr .any eX bad_many, .no, .no, .no, .no, .no, .no])) (ts_forP (v0 := ()) (fun (v35 : Unit) => [.vr .pl eRo script, .vr .pl eI k, .vr .pl eBx bag, .vr .pl (eT (eT eI)) rooms, .vr .any eX bad_hall, .vr .any eX bad_i, .vr .any eX bad_many, .no, .no, .no, .no, .no, .no]) (ti_r1p te_int) (wk_eq (wk_eq (wk_eq (wk_eq (wk_eq (wk_eq (wk_eq (wk_no (wk_no (wk_no (wk_no (wk_no (wk_no wk_nil))))))))))))) (fun door (v35 : (Unit)) => ⟨[.vr .pl eRo script, .vr .pl eI k, .vr .pl eBx bag, .vr .pl (eT (eT eI)) rooms, .vr .any eX bad_hall, .vr .any eX bad_i, .vr .any eX bad_many, .vr .pl eI door, .no, .no, .no, .no, .no], (tb_nmP (i := 7)), (ts_setTP (i := 8) (tp_op (pa ((tp_op (pa (TP.asX (tp_op (pa (te_var 4) fun d37 r37 => (pa (te_var 5) fun d38 r38 => (pa (te_var 6) fun d39 r39 => (pa_nil (x_tri r37 r38 r39))))))) fun d40 r40 => (pa te_str fun d41 r41 => (pa_nil (x_pair r40 r41)))))).any fun d47 r47 => (pa ((tp_op (pa (TP.asX (tp_op (pa (te_varP 3) fun d42 r42 => (pa (te_var 5) fun d43 r43 => (pa (te_var 6) fun d44 r44 => (pa_nil (x_tri r42 r43 r44))))))) fun d45 r45 => (pa te_str fun d46 r46 => (pa_nil (x_pair r45 r46)))))).any fun d48 r48 => (pa_nil (x_lstA (RpL.cons r47 (RpL.cons r48 RpL.nil))))))) fun asks => (at_ [.vr .pl eRo script, .vr .pl eI k, .vr .pl eBx bag, .vr .pl (eT (eT eI)) rooms, .vr .any eX bad_hall, .vr .any eX bad_i, .vr .any eX bad_many, .vr .pl eI door, .vr .top (eL (eP eX eS)) asks, .no, .no, .no, .no] (ts_appAP 8 (tp_op (pa (TP.asXp ((tp_op (pa (te_varP 3) fun d52 r52 => (pa (tp_op (pa (tp_op (pa (te_varP 3) fun d49 r49 => (pa_nil (x_lenT r49)))) fun d50 r50 => (pa te_int fun d51 r51 => (pa_nil (x_sub r50 r51))))) fun d53 r53 => (pa te_int fun d54 r54 => (pa_nil (x_tri r52 r53 r54))))))).plain) fun d55 r55 => (pa te_str fun d56 r56 => (pa_nil (x_pair r55 r56))))) fun asks1 => (at_ [.vr .pl eRo script, .vr .pl eI k, .vr .pl eBx bag, .vr .pl (eT (eT eI)) rooms, .vr .any eX bad_hall, .vr .any eX bad_i, .vr .any eX bad_many, .vr .pl eI door, .vr .top (eL (eP eX eS)) asks1, .no, .no, .no, .no] (ts_sq (π' := (fun (v62 : (List (D × Str))) => [.vr .pl eRo script, .vr .pl eI k, .vr .pl eBx bag, .vr .pl (eT (eT eI)) rooms, .vr .any eX bad_hall, .vr .any eX bad_i, .vr .any eX bad_many, .vr .pl eI door, .vr .top (eL (eP eX eS)) v62, .no, .no, .no, .no])) (ts_ifp (tcp_and (tcp_V (tp_op (pa (te_varP 7) fun d60 r60 => (pa te_int fun d61 r61 => (pa_nil (x_eq (e := eI) r60 r61)))))) (tcp_V (tp_op (pa (tp_op (pa (te_varP 3) fun d57 r57 => (pa_nil (x_lenT r57)))) fun d58 r58 => (pa te_int fun d59 r59 => (pa_nil (x_gt r58 r59))))))) (ts_one (ts_appAP 8 (tp_op (pa (TP.asX (tp_op (pa (te_varP 3) fun d63 r63 => (pa te_int fun d64 r64 => (pa (te_var 6) fun d65 r65 => (pa_nil (x_tri r63 r64 r65))))))) fun d66 r66 => (pa te_str fun d67 r67 => (pa_nil (x_pair r66 r67))))) fun asks2 => (at_ [.vr .pl eRo script, .vr .pl eI k, .vr .pl eBx bag, .vr .pl (eT (eT eI)) rooms, .vr .any eX bad_hall, .vr .any eX bad_i, .vr .any eX bad_many, .vr .pl eI door, .vr .top (eL (eP eX eS)) asks2, .no, .no, .no, .no] (ts_nil (v := asks2) (wk_eq (wk_eq (wk_eq (wk_eq (wk_eq (wk_eq (wk_eq (wk_eq (wk_eq (wk_no (wk_no (wk_no (wk_no wk_nil))))))))))))))))) (ts_nil (v := asks1) (wk_eq (wk_eq (wk_eq (wk_eq (wk_eq (wk_eq (wk_eq (wk_eq (wk_eq (wk_no (wk_no (wk_no (wk_no wk_nil))))))))))))))) fun (v62 : ((List (D × Str)))) => (ts_sq (π' := (fun (v69 : Unit) => [.vr .pl eRo script, .vr .pl eI k, .vr .pl eBx bag, .vr .pl (eT (eT eI)) rooms, .vr .any eX bad_hall, .vr .any eX bad_i, .vr .any eX bad_many, .vr .pl eI door, .vr .any (eL (eP eX eS)) v62, .no, .no, .no, .no])) (ts_for (v0 := ()) (fun (v69 : Unit) => [.vr .pl eRo script, .vr .pl eI k, .vr .pl eBx bag, .vr .pl (eT (eT eI)) rooms, .vr .any eX bad_hall, .vr .any eX bad_i, .vr .any eX bad_many, .vr .pl eI door, .vr .any (eL (eP eX eS)) v62, .no, .no, .no, .no]) (tip_seq (it_L (te_var 8))) (wk_eq (wk_eq (wk_eq (wk_eq (wk_eq (wk_eq (wk_eq (wk_eq (wk_eq (wk_no (wk_no (wk_no (wk_no wk_nil))))))))))))) (fun x70 (v69 : (Unit)) => ⟨[.vr .pl eRo script, .vr .pl eI k, .vr .pl eBx bag, .vr .pl (eT (eT eI)) rooms, .vr .any eX bad_hall, .vr .any eX bad_i, .vr .any eX bad_many, .vr .pl eI door, .vr .any (eL (eP eX eS)) v62, .vr .fro eX x70.1, .vr .pl eS x70.2, .no, .no], (tb_t2 (tb_nm (i := 9)) (tb_nmP (i := 10))), (ts_setPlE (i := 11) (te_op (ta_P (te_var 9) fun d71 r71 => (ta_nil (x_reprZ r71)))) fun before => (at_ [.vr .pl eRo script, .vr .pl eI k, .vr .pl eBx bag, .vr .pl (eT (eT eI)) rooms, .vr .any eX bad_hall, .vr .any eX bad_i, .vr .any eX bad_many, .vr .pl eI door, .vr .any (eL (eP eX eS)) v62, .vr .fro eX x70.1, .vr .pl eS x70.2, .vr .pl eS before, .no] (ts_one (ts_ifD (tc_or (tc_V (te_op (ta_E (te_call (ta_P (te_varP 7) fun d75 r75 => (ta_P (te_var 9) fun d76 r76 => (ta_nil (fun s => tf__law_said_e0aax r75.any r76 s))))) fun y79 d79 r79 => (ta_P (tp_op (pa (te_varP 10) fun d77 r77 => (pa te_str fun d78 r78 => (pa_nil (x_lstP (RpL.cons r77 (RpL.cons r78 RpL.nil))))))) fun d80 r80 => (ta_nil (x_neX r79 r80)))))) (tc_V (te_op (ta_E (te_op (ta_P (te_var 9) fun d72 r72 => (ta_nil (x_reprZ r72)))) fun y73 d73 r73 => (ta_P (te_varP 11) fun d74 r74 => (ta_nil (x_neX r73 r74))))))) (ts_retP te_bl) (ts_skip (ts_nil (v := ()) (wk_eq (wk_eq (wk_eq (wk_eq (wk_eq (wk_eq (wk_eq (wk_eq (wk_eq (wk_no (wk_no (wk_no (wk_no wk_nil)))))))))))))))))))⟩)) fun (v69 : (Unit)) => (ts_one (ts_sq (π' := (fun (v84 : Unit) => [.vr .pl eRo script, .vr .pl eI k, .vr .pl eBx bag, .vr .pl (eT (eT eI)) rooms, .vr .any eX bad_hall, .vr .any eX bad_i, .vr .any eX bad_many, .vr .pl eI door, .vr .any (eL (eP eX eS)) v62, .no, .no, .no, .no])) (ts_forP (v0 := ()) (fun (v84 : Unit) => [.vr .pl eRo script, .vr .pl eI k, .vr .pl eBx bag, .vr .pl (eT (eT eI)) rooms, .vr .any eX bad_hall, .vr .any eX bad_i, .vr .any eX bad_many, .vr .pl eI door, .vr .any (eL (eP eX eS)) v62, .no, .no, .no, .no]) (ti_r1p (tp_op (pa (tp_op (pa (te_varP 3) fun d81 r81 => (pa_nil (x_lenT r81)))) fun d82 r82 => (pa te_int fun d83 r83 => (pa_nil (x_sub r82 r83)))))) (wk_eq (wk_eq (wk_eq (wk_eq (wk_eq (wk_eq (wk_eq (wk_eq (wk_eq (wk_no (wk_no (wk_no (wk_no wk_nil))))))))))))) (fun i (v84 : (Unit)) => ⟨[.vr .pl eRo script, .vr .pl eI k, .vr .pl eBx bag, .vr .pl (eT (eT eI)) rooms, .vr .any eX bad_hall, .vr .any eX bad_i, .vr .any eX bad_many, .vr .pl eI door, .vr .any (eL (eP eX eS)) v62, .no, .no, .no, .vr .pl eI i], (tb_nmP (i := 12)), (ts_one (ts_ifD (tc_V (te_op (ta_E (te_op (ta_E (te_call (ta_P (te_varP 7) fun d91 r91 => (ta_E (TE.asXp ((te_op (ta_P (te_varP 3) fun d88 r88 => (ta_P (te_varP 12) fun d89 r89 => (ta_E (te_op (ta_P te_int fun d86 r86 => (ta_P te_int fun d87 r87 => (ta_nil (x_pow r86 r87))))) fun y90 d90 r90 => (ta_nil (ok_p (x_tri r88 r89 r90)))))))).plain) fun y92 d92 r92 => (ta_nil (fun s => tf__law_said_e0aax r91.any r92 s))))) fun y101 d101 r101 => (ta_E (te_call (ta_P (te_varP 7) fun d99 r99 => (ta_E (TE.asXp ((te_op (ta_P (te_varP 3) fun d96 r96 => (ta_P (te_varP 12) fun d97 r97 => (ta_E (te_op (ta_E (te_op (ta_P te_int fun d93 r93 => (ta_P te_int fun d94 r94 => (ta_nil (x_pow r93 r94))))) fun y95 d95 r95 => (ta_nil (ok_p (x_neg r95))))) fun y98 d98 r98 => (ta_nil (ok_p (x_tri r96 r97 r98)))))))).plain) fun y100 d100 r100 => (ta_nil (fun s => tf__law_said_e0aax r99.any r100 s))))) fun y102 d102 r102 => (ta_nil (x_catP r101 r102))))) fun y103 d103 r103 => (ta_P (tp_op (pa_nil (x_lstO (RpL.nil (k := .own) (e := eS))))) fun d104 r104 => (ta_nil (x_neX r103 r104)))))) (ts_retP te_bl) (ts_skip (ts_nil (v := ()) (wk_eq (wk_eq (wk_eq (wk_eq (wk_eq (wk_eq (wk_eq (wk_eq (wk_eq (wk_no (wk_no (wk_no (wk_no wk_nil)))))))))))))))))⟩)) fun (v84 : (Unit)) => (ts_nil (v := ()) (wk_eq (wk_eq (wk_eq (wk_eq (wk_eq (wk_eq (wk_eq (wk_no (wk_no (wk_no (wk_no (wk_no (wk_no wk_nil))))))))))))))))))))))⟩)) fun (v35 : (Unit)) => (ts_nil (v := ()) (wk_eq (wk_no (wk_no (wk_no (wk_no (wk_no (wk_no (wk_no (wk_no (wk_no (wk_no (wk_no (wk_no wk_nil))))))))))))))))))))))))))⟩)) fun (v6 : (Unit)) => (ts_one (ts_retP te_bl)))
end Zm
set_option linter.all false
set_option autoImplicit false
set_option maxRecDepth 100000
namespace Zm
open PySem
--@ _law_dip
def Well (s : Sto) (n C : Nat) : Prop := ∃ a b c : Int, s[n]? = some [.int a, .int b, .int c] ∧ 0 ≤ a ∧ 0 ≤ b ∧ b < 2 ^ 140 ∧ 0 ≤ c ∧ c ≤ C
theorem Well.mono {s : Sto} {n C C' : Nat} (h : Well s n C) (hc : C ≤ C') : Well s n C' := by
  obtain ⟨a, b, c, e, h1, h2, h3, h4, h5⟩ := h
  exact ⟨a, b, c, e, h1, h2, h3, h4, by omega⟩
theorem ix_box {s : Sto} {n : Nat} {xs : List D} {i : Int} {d : D} (h : s[n]? = some xs) (e : L2.atI xs i = some d) : gIx s [.box n, .int i] = some d := by
  show (s[n]?).bind _ = _
  rw [h]; exact e
theorem at3_0 {x y z : D} : L2.atI [x, y, z] 0 = some x := rfl
theorem at3_1 {x y z : D} : L2.atI [x, y, z] 1 = some y := rfl
theorem at3_2 {x y z : D} : L2.atI [x, y, z] 2 = some z := rfl
theorem sm_lt {i : Int} (h1 : -(2 ^ 250) < i) (h2 : i < 2 ^ 250) : sm i = true := by
  refine sm_of (Nat.lt_of_lt_of_le (m := 2 ^ 250) (by omega) (Nat.pow_le_pow_right (by decide) (by decide)))
theorem pow_s (s : Sto) (x k : Int) (h0 : 0 ≤ k) (hk : k ≤ 1000) (h1 : -(2 ^ 250) < x) (h2 : x < 2 ^ 250) : gPow s [.int x, .int k] = some (.int (x ^ k.toNat)) := by
  simp only [gPow]
  rw [if_pos ⟨h0, hk, sm_lt h1 h2⟩]
theorem p10 (s : Sto) (k : Int) (h0 : 0 ≤ k) (hk : k ≤ 1000) : gPow s [.int 10, .int k] = some (.int (10 ^ k.toNat)) := pow_s s 10 k h0 hk (by decide) (by decide)
theorem mul_s (s : Sto) (x y : Int) (h1 : -(2 ^ 250) < x) (h2 : x < 2 ^ 250) (h3 : -(2 ^ 250) < y) (h4 : y < 2 ^ 250) : gMul s [.int x, .int y] = some (.int (x * y)) := by
  simp only [gMul]
  rw [if_pos ⟨sm_lt h1 h2, sm_lt h3 h4⟩]
theorem div_s (s : Sto) (x y : Int) (h : 0 < y) (h' : y < 2 ^ 250) : gDiv s [.int x, .int y] = some (.int (x / y)) := by
  simp only [gDiv]
  rw [if_pos ⟨h, sm_lt (by omega) h'⟩]
--@ loops
theorem lc_map {tg : Tg} {m : M} {σ : Env} {s : Sto} (g : D → D) : ∀ (ds acc : List D), (∀ d ∈ ds, ∃ σ1, tg.bind d σ = some σ1 ∧ m σ1 s = .ok (g d) s) → acc.length + ds.length ≤ sizeLine →
    lcR tg tTrue m σ ds acc s = .ok (.lst true (acc ++ ds.map g)) s
  | [], acc, _, _ => by simp [lcR]
  | d :: ds, acc, h, hl => by
    obtain ⟨σ1, e1, e2⟩ := h d (by simp)
    rw [List.length_cons] at hl
    unfold lcR
    simp only [e1, tTrue, e2, if_true]
    rw [if_pos (by omega), lc_map g ds (acc ++ [g d]) (fun d hd => h d (List.mem_cons_of_mem _ hd)) (by simp; omega)]
    simp
theorem mLc_map {src : Src} {tg : Tg} {vs : List Nat} {m : M} {σ : Env} {s s' : Sto} {ds : List D} (g : D → D) (h : src σ s = .ok ds s') (hw : tg.within vs = true) (hm : ∀ d ∈ ds, ∃ σ1, tg.bind d (wipeE (fzE σ) vs) = some σ1 ∧ m σ1 s' = .ok (g d) s') (hl : ds.length ≤ 1000000) :
    mLc src tg vs tTrue m σ s = .ok (.lst true (ds.map g)) s' := by
  have := lc_map (tg := tg) (m := m) g ds [] hm (by simpa using Nat.le_trans hl szl)
  simp only [mLc, h, R.bind_ok, hw, if_true, this, List.nil_append]
theorem mkFn_rt {np ns : Nat} {body : MS} {ds : List D} {s s' : Sto} {d : D} (hl : ds.length = np) (h : body (ds.map some ++ List.replicate (ns - np) none) s = .rt d s') : mkFn np ns body ds s = .ok d s' := by
  simp only [mkFn, if_pos hl, h]
theorem mkFn_nx {np ns : Nat} {body : MS} {ds : List D} {s s' : Sto} {σ : Env} (hl : ds.length = np) (h : body (ds.map some ++ List.replicate (ns - np) none) s = .nx σ s') : mkFn np ns body ds s = .ok .non s' := by
  simp only [mkFn, if_pos hl, h]
--@ _law_well
theorem sl3 : 3 ≤ sizeLine := by decide
--@ _law_hall
def rowD (r : List Int) : D := .tup (r.map D.int)
def hallD (h : List (List Int)) : D := .tup (h.map rowD)
def Nn (r : List Int) : Prop := ∀ x ∈ r, 0 ≤ x
@[simp] theorem fz_rows : ∀ h : List (List Int), fzs (h.map rowD) = h.map rowD
  | [] => rfl
  | r :: h => by simp [fz_rows h, rowD]
@[simp] theorem noF_rows : ∀ h : List (List Int), noFs (h.map rowD) = true
  | [] => rfl
  | r :: h => by simp [noF_rows h, rowD]
@[simp] theorem plain_rows : ∀ h : List (List Int), plains (h.map rowD) = true
  | [] => rfl
  | r :: h => by simp [plain_rows h, rowD]
@[simp] theorem fz_hall (h : List (List Int)) : fz (hallD h) = hallD h := by simp [hallD, fz_rows]
@[simp] theorem noF_hall (h : List (List Int)) : noF (hallD h) = true := by simp [hallD, noF_rows]
structure HallOK (h : List (List Int)) (m : Nat) : Prop where
  l1 : 1 ≤ h.length
  l8 : h.length ≤ 8
  m1 : 1 ≤ m
  m8 : m ≤ 8
  row : ∀ r ∈ h, r.length = m ∧ Nn r
theorem setD_ok {msk : List Bool} {i : Nat} {m : M} {σ : Env} {s s' : Sto} {d : D} (h : m σ s = .ok d s') (hn : noF d = true) (hl : i < σ.length) : mSetD msk i m σ s = .nx (σ.set i (some d)) s' := by
  unfold mSetD
  simp [h, hn, hl]
theorem szb {n : Nat} (h : n ≤ 1000000) : n ≤ sizeLine := Nat.le_trans h szl
theorem gLst_ok {s : Sto} {ds : List D} (h : ds.length ≤ 1000000) : gLst s ds = some (.lst true ds) := by unfold Zm.gLst; rw [if_pos (szb h)]
theorem gIx_l {s : Sto} {o : Bool} {xs : List D} {i : Int} : gIx s [.lst o xs, .int i] = L2.atI xs i := rfl
--@ _law_times
structure DayOK (t : List Int) (m : Nat) : Prop where
  len : t.length = m
  nn : Nn t
  up : t.Pairwise (· ≤ ·)
--@ is_whole is_amount is_row is_hall need_hall
theorem whole_int (i : Int) (s : Sto) : f_is_whole [.int i] s = .ok (.bl true) s := rfl
theorem amount_int (i : Int) (s : Sto) : f_is_amount [.int i] s = .ok (.bl (decide (0 ≤ i))) s := rfl
theorem toBls_true : ∀ n : Nat, toBls (List.replicate n (.bl true)) = some (List.replicate n true)
  | 0 => rfl
  | n + 1 => by simp [List.replicate_succ, toBls, toBls_true n]
theorem map_const {α β : Type} (b : β) : ∀ l : List α, l.map (fun _ => b) = List.replicate l.length b
  | [] => rfl
  | x :: l => by simp [List.replicate_succ, map_const b l]
theorem gAll_true {s : Sto} {o : Bool} (n : Nat) : gAll s [.lst o (List.replicate n (.bl true))] = some (.bl true) := by
  simp [gAll, toBls_true]
@[simp] theorem fz_row (r : List Int) : fz (rowD r) = rowD r := by simp [rowD]
theorem items_row (r : List Int) : itemsOf (rowD r) = some (r.map D.int) := by simp [itemsOf, rowD]
theorem items_hall (h : List (List Int)) : itemsOf (hallD h) = some (h.map rowD) := by simp [itemsOf, hallD]
theorem iSeq_ok {m : M} {σ : Env} {s s' : Sto} {d : D} {ds : List D} (h : m σ s = .ok d s') (hd : itemsOf d = some ds) : iSeq m σ s = .ok ds s' := by
  simp only [iSeq, h, R.bind_ok]
  cases d <;> simp_all [itemsOf]
theorem row_ok {r : List Int} {m : Nat} (hl : r.length = m) (hn : Nn r) (hz : r.length ≤ 1000000) (s : Sto) : f_is_row [rowD r, .int (m : Nat)] s = .ok (.bl true) s := by
  have key : f_is_row_c1 [some (rowD r), some (.int (m : Nat)), none] s = .ok (.lst true (List.replicate r.length (.bl true))) s := by
    have := mLc_map (src := iSeq (mVar 0)) (tg := .nm 2) (vs := [2]) (m := mCall f_is_amount [mVar 2]) (σ := [some (rowD r), some (.int (m : Nat)), none]) (s := s) (s' := s) (ds := r.map D.int) (fun _ => .bl true) (iSeq_ok (by simp) (items_row r)) rfl (fun d hd => by
      obtain ⟨x, hx, rfl⟩ := List.mem_map.mp hd
      exact ⟨_, rfl, by simp [amount_int, hn x hx]⟩) (by simpa using hz)
    rwa [map_const, List.length_map] at this
  refine mkFn_rt rfl ?_
  have e1 : gLen s [rowD r] = some (.int (m : Nat)) := by simp [rowD, hl]
  have e2 : gIsi s [rowD r, .ty "tuple"] = some (.bl true) := by simp [rowD]
  simp only [mRet, mAnd, mOp, mArgs, mVar, mC, List.map_cons, List.map_nil, List.cons_append, List.nil_append, List.getElem?_cons_zero, List.getElem?_cons_succ, fz, fz_row, R.bind_ok, R.of_some, R.to_ok, e1, e2, eq_t (Cmp.int _) (Cmp.int _), show List.replicate (3 - 2) (none : Option D) = [none] from rfl, key, gAll_true]
theorem gIx_h {s : Sto} {h : List (List Int)} {r : List Int} (e : h.head? = some r) : gIx s [hallD h, .int 0] = some (rowD r) := by
  cases h with
  | nil => cases e
  | cons x h =>
    have : x = r := by simpa using e
    subst this
    exact (show gIx s [hallD (x :: h), .int 0] = L2.atI (rowD x :: h.map rowD) 0 from rfl).trans (atI_zero.trans rfl)
theorem hall_is {h : List (List Int)} {m : Nat} (H : HallOK h m) (s : Sto) : f_is_hall [hallD h] s = .ok (.bl true) s := by
  obtain ⟨r0, e0⟩ : ∃ r, h.head? = some r := by
    cases h with
    | nil => have := H.l1; simp at this
    | cons x h => exact ⟨x, rfl⟩
  have hr0 : r0 ∈ h := List.mem_of_head? e0
  have hm := (H.row r0 hr0).1
  have g0 : gIx s [hallD h, .int 0] = some (rowD r0) := gIx_h e0
  have g1 : gLen s [rowD r0] = some (.int (m : Nat)) := by simp [rowD, hm]
  have g2 : gIsi s [hallD h, .ty "tuple"] = some (.bl true) := by simp [hallD]
  have g3 : gIsi s [rowD r0, .ty "tuple"] = some (.bl true) := by simp [rowD]
  have g4 : gLen s [hallD h] = some (.int (h.length : Nat)) := by simp [hallD]
  have key : f_is_hall_c1 [some (hallD h), none] s = .ok (.lst true (List.replicate h.length (.bl true))) s := by
    have := mLc_map (src := iSeq (mVar 0)) (tg := .nm 1) (vs := [1]) (m := mCall f_is_row [mVar 1, mOp gLen [mOp gIx [mVar 0, mC (.int 0)]]]) (σ := [some (hallD h), none]) (s := s) (s' := s) (ds := h.map rowD) (fun _ => .bl true) (iSeq_ok (by simp) (items_hall h)) rfl (fun d hd => by
      obtain ⟨r, hr, rfl⟩ := List.mem_map.mp hd
      refine ⟨_, rfl, ?_⟩
      have := row_ok (H.row r hr).1 (H.row r hr).2 (by have := (H.row r hr).1; have := H.m8; omega) s
      simp [-gLen, g0, g1, this]) (by have := H.l8; rw [List.length_map]; omega)
    rwa [map_const, List.length_map] at this
  have c1 : gLe s [.int 1, .int (h.length : Nat)] = some (.bl true) := by have := H.l1; simp; omega
  have c2 : gLe s [.int (h.length : Nat), .int 8] = some (.bl true) := by have := H.l8; simp; omega
  have c3 : gLe s [.int 1, .int (m : Nat)] = some (.bl true) := by have := H.m1; simp; omega
  have c4 : gLe s [.int (m : Nat), .int 8] = some (.bl true) := by have := H.m8; simp; omega
  refine mkFn_rt rfl ?_
  simp [-gLen, -gLe, -gIsi, mChain, g0, g1, g2, g3, g4, c1, c2, c3, c4, key, gAll_true]
theorem need_ok {h : List (List Int)} {m : Nat} (H : HallOK h m) (s : Sto) : f_need_hall [hallD h] s = .ok .non s := by
  refine mkFn_nx (σ := [some (hallD h)]) rfl ?_
  simp [hall_is H s]
--@ are_times need_day
--@ left_at leavings_of leavings
def leftFrom (free : Int) : List Int → List Int → List Int
  | a :: row, t :: ts => (max free t + a) :: leftFrom (max free t + a) row ts
  | _, _ => []
def leftAt (row ts : List Int) : List Int := leftFrom 0 row ts
def lolD (o o' : Bool) (h : List (List Int)) : D := .lst o (h.map fun r => .lst o' (r.map D.int))
@[simp] theorem fz_lol (o o' : Bool) (h : List (List Int)) : fz (lolD o o' h) = lolD false false h := by
  unfold lolD
  rw [fz, fzs_eq, List.map_map]
  congr 1
  exact List.map_congr_left fun r _ => by simp
--@ last
--@ waits
end Zm
set_option linter.all false
set_option autoImplicit false
set_option maxRecDepth 100000
namespace Zm
open PySem
def diffs (a b : List Int) : List Int := List.zipWith (fun x y => y - x) a b
def overL : List (List Int) → List (List Int) → List Int
  | a :: as, b :: bs => diffs a b ++ overL as bs
  | _, _ => []
/-! the plain law of leavings -/
inductive Btw (c : Int) : List Int → List Int → Prop
  | nil : Btw c [] []
  | cons {a b : Int} {as bs : List Int} : a ≤ b → b ≤ a + c → Btw c as bs → Btw c (a :: as) (b :: bs)
theorem Btw.refl {c : Int} (h : 0 ≤ c) : ∀ l, Btw c l l
  | [] => .nil
  | x :: l => .cons (by omega) (by omega) (Btw.refl h l)
theorem Btw.len {c : Int} {as bs : List Int} (h : Btw c as bs) : as.length = bs.length := by induction h <;> simp_all
theorem Btw.left {c : Int} (hc : 0 ≤ c) {ts us : List Int} (h : Btw c ts us) : ∀ {row : List Int} {f g : Int}, f ≤ g → g ≤ f + c → Btw c (leftFrom f row ts) (leftFrom g row us) := by
  induction h with
  | nil => intro row f g _ _; cases row <;> exact .nil
  | cons h1 h2 _ ih =>
    intro row f g h3 h4
    cases row with
    | nil => exact .nil
    | cons a row => exact .cons (by omega) (by omega) (ih (by omega) (by omega))
inductive BtwL (c : Int) : List (List Int) → List (List Int) → Prop
  | nil : BtwL c [] []
  | cons {a b : List Int} {as bs : List (List Int)} : Btw c a b → BtwL c as bs → BtwL c (a :: as) (b :: bs)
theorem Btw.diffs {c : Int} {a b : List Int} (h : Btw c a b) : ∀ x ∈ diffs a b, 0 ≤ x ∧ x ≤ c := by
  induction h with
  | nil => intro x hx; simp [Zm.diffs] at hx
  | cons h1 h2 _ ih =>
    intro x hx
    simp only [Zm.diffs, List.zipWith_cons_cons, List.mem_cons] at hx
    rcases hx with rfl | hx
    · omega
    · exact ih x hx
theorem BtwL.over {c : Int} {as bs : List (List Int)} (h : BtwL c as bs) : ∀ x ∈ overL as bs, 0 ≤ x ∧ x ≤ c := by
  induction h with
  | nil => intro x hx; simp [overL] at hx
  | cons h1 _ ih =>
    intro x hx
    simp only [overL, List.mem_append] at hx
    rcases hx with hx | hx
    · exact h1.diffs x hx
    · exact ih x hx
/-! only what is ahead counts -/
/-- the times at which those come who come to the last of h -/
def inTo : List (List Int) → List Int → List Int
  | [], ts => ts
  | r :: h, ts => inTo h (leftAt r ts)
/-! all later -/
/-! the later of two days -/
/-! between two who leave -/
/-! more minutes at one cell -/
theorem BtwL.refl {c : Int} (h : 0 ≤ c) : ∀ l, BtwL c l l
  | [] => .nil
  | x :: l => .cons (Btw.refl h x) (BtwL.refl h l)
end Zm
set_option linter.all false
set_option autoImplicit false
set_option maxRecDepth 100000
/-! GXH: things that are no halls, no numbers. -/
namespace Zm
open PySem
/-- no number to count by -/
def NoAm (d : D) : Prop := ∀ s, f_is_amount [d] s = .ok (.bl false) s
/-- no hall -/
def NoHa (d : D) : Prop := ∀ s, f_is_hall [d] s = .ok (.bl false) s
theorem noAm_non : NoAm .non := fun s => by simp [f_is_amount, f_is_whole, mkFn, mAnd, mNot]
theorem noAm_bl (b : Bool) : NoAm (.bl b) := fun s => by simp [f_is_amount, f_is_whole, mkFn, mAnd, mNot]
theorem noAm_str (b : Str) : NoAm (.str b) := fun s => by simp [f_is_amount, f_is_whole, mkFn, mAnd, mNot]
theorem noAm_tup (b : List D) : NoAm (.tup b) := fun s => by simp [f_is_amount, f_is_whole, mkFn, mAnd, mNot]
theorem noAm_lst (o : Bool) (b : List D) : NoAm (.lst o b) := fun s => by simp [f_is_amount, f_is_whole, mkFn, mAnd, mNot]
theorem noAm_neg {i : Int} (h : i < 0) : NoAm (.int i) := fun s => by rw [amount_int, decide_eq_false (by omega)]
/-! ### rows, halls -/
theorem all_bl {α : Type} {s : Sto} {o : Bool} (p : α → Bool) (l : List α) : gAll s [.lst o (l.map fun x => .bl (p x))] = some (.bl (l.all p)) := by
  have : l.map (fun x => D.bl (p x)) = (l.map p).map D.bl := by simp
  simp only [gAll, this, toBls_map, Option.bind_some]
  simp
theorem row_is {ds : List D} {m : Nat} (p : D → Bool) (hf : fzs ds = ds) (hp : ∀ d ∈ ds, fz d = d ∧ ∀ s, f_is_amount [d] s = .ok (.bl (p d)) s) (hl : ds.length ≤ 1000000) (s : Sto) : f_is_row [.tup ds, .int (m : Nat)] s = .ok (.bl (decide (ds.length = m) && ds.all p)) s := by
  have key : f_is_row_c1 [some (.tup ds), some (.int (m : Nat)), none] s = .ok (.lst true (ds.map fun d => .bl (p d))) s :=
    mLc_map (src := iSeq (mVar 0)) (tg := .nm 2) (vs := [2]) (m := mCall f_is_amount [mVar 2]) (σ := [some (.tup ds), some (.int (m : Nat)), none]) (s := s) (s' := s) (ds := ds) (fun d => .bl (p d)) (iSeq_ok (d := .tup ds) (by simp [hf]) (by simp [itemsOf, hf])) rfl (fun d hd => by
      obtain ⟨a, b⟩ := hp d hd
      exact ⟨_, rfl, by simp [a, b]⟩) hl
  have e1 : gLen s [.tup ds] = some (.int (ds.length : Nat)) := by simp
  have e2 : gIsi s [.tup ds, .ty "tuple"] = some (.bl true) := by simp
  refine mkFn_rt rfl ?_
  by_cases z : ds.length = m
  · subst z
    simp only [mRet, mAnd, mOp, mArgs, mVar, mC, List.map_cons, List.map_nil, List.cons_append, List.nil_append, List.getElem?_cons_zero, List.getElem?_cons_succ, fz, hf, R.bind_ok, R.of_some, R.to_ok, e1, e2, eq_t (Cmp.int _) (Cmp.int _), show List.replicate (3 - 2) (none : Option D) = [none] from rfl, key, all_bl, decide_true, Bool.true_and]
  · simp only [mRet, mAnd, mOp, mArgs, mVar, mC, List.map_cons, List.map_nil, List.cons_append, List.nil_append, List.getElem?_cons_zero, List.getElem?_cons_succ, fz, hf, R.bind_ok, R.of_some, R.to_ok, e1, e2, eq_f (Cmp.int _) (Cmp.int _) (show (PyData.int (ds.length : Nat)) ≠ .int (m : Nat) from fun y => z (by injection y with y; omega)), decide_eq_false z, Bool.false_and]
theorem hall_is2 {ds r0 : List D} (q : D → Bool) (hf : fzs ds = ds) (h0 : ds.head? = some (.tup r0)) (l8 : ds.length ≤ 8) (hp : ∀ d ∈ ds, fz d = d ∧ ∀ s, f_is_row [d, .int (r0.length : Nat)] s = .ok (.bl (q d)) s) (hq : ds.all q = false) : NoHa (.tup ds) := fun s => by
  have l1 : 1 ≤ ds.length := by
    cases ds with
    | nil => cases h0
    | cons x y => simp
  have g0 : gIx s [.tup ds, .int 0] = some (.tup r0) := by
    show L2.atI ds 0 = _
    rw [atI_zero, ← List.head?_eq_getElem?, h0]
  have f0 : fz (.tup r0) = .tup r0 := (hp _ (List.mem_of_head? h0)).1
  have fr : fzs r0 = r0 := by simpa using f0
  have g1 : gLen s [.tup r0] = some (.int (r0.length : Nat)) := by simp
  have g2 : gIsi s [.tup ds, .ty "tuple"] = some (.bl true) := by simp
  have g3 : gIsi s [.tup r0, .ty "tuple"] = some (.bl true) := by simp
  have g4 : gLen s [.tup ds] = some (.int (ds.length : Nat)) := by simp
  have key : f_is_hall_c1 [some (.tup ds), none] s = .ok (.lst true (ds.map fun d => .bl (q d))) s :=
    mLc_map (src := iSeq (mVar 0)) (tg := .nm 1) (vs := [1]) (m := mCall f_is_row [mVar 1, mOp gLen [mOp gIx [mVar 0, mC (.int 0)]]]) (σ := [some (.tup ds), none]) (s := s) (s' := s) (ds := ds) (fun d => .bl (q d)) (iSeq_ok (d := .tup ds) (by simp [hf]) (by simp [itemsOf, hf])) rfl (fun d hd => by
      obtain ⟨a, b⟩ := hp d hd
      refine ⟨_, rfl, ?_⟩
      simp [-gLen, hf, g0, g1, a, b]) (by omega)
  have c1 : gLe s [.int 1, .int (ds.length : Nat)] = some (.bl true) := by simp; omega
  have c2 : gLe s [.int (ds.length : Nat), .int 8] = some (.bl true) := by simp; omega
  refine mkFn_rt rfl ?_
  by_cases z1 : 1 ≤ r0.length
  · have c3 : gLe s [.int 1, .int (r0.length : Nat)] = some (.bl true) := by simp; omega
    by_cases z2 : r0.length ≤ 8
    · have c4 : gLe s [.int (r0.length : Nat), .int 8] = some (.bl true) := by simp; omega
      simp [-gLen, -gLe, -gIsi, mChain, hf, g0, g1, g2, g3, g4, c1, c2, c3, c4, key, all_bl, hq]
    · have c4 : gLe s [.int (r0.length : Nat), .int 8] = some (.bl false) := by simp; omega
      simp [-gLen, -gLe, -gIsi, mChain, hf, g0, g1, g2, g3, g4, c1, c2, c3, c4]
  · have c3 : gLe s [.int 1, .int (r0.length : Nat)] = some (.bl false) := by simp; omega
    simp [-gLen, -gLe, -gIsi, mChain, hf, g0, g1, g2, g3, g4, c1, c2, c3]
theorem noHa_wide {ds r0 : List D} (hf : fzs ds = ds) (h0 : ds.head? = some (.tup r0)) (l8 : ds.length ≤ 8) (hz : r0.length = 0 ∨ 8 < r0.length) : NoHa (.tup ds) := fun s => by
  have l1 : 1 ≤ ds.length := by
    cases ds with
    | nil => cases h0
    | cons x y => simp
  have g0 : gIx s [.tup ds, .int 0] = some (.tup r0) := by
    show L2.atI ds 0 = _
    rw [atI_zero, ← List.head?_eq_getElem?, h0]
  have g1 : gLen s [.tup r0] = some (.int (r0.length : Nat)) := by simp
  have g2 : gIsi s [.tup ds, .ty "tuple"] = some (.bl true) := by simp
  have g3 : gIsi s [.tup r0, .ty "tuple"] = some (.bl true) := by simp
  have g4 : gLen s [.tup ds] = some (.int (ds.length : Nat)) := by simp
  have c1 : gLe s [.int 1, .int (ds.length : Nat)] = some (.bl true) := by simp; omega
  have c2 : gLe s [.int (ds.length : Nat), .int 8] = some (.bl true) := by simp; omega
  refine mkFn_rt rfl ?_
  by_cases z1 : 1 ≤ r0.length
  · have c3 : gLe s [.int 1, .int (r0.length : Nat)] = some (.bl true) := by simp; omega
    have c4 : gLe s [.int (r0.length : Nat), .int 8] = some (.bl false) := by simp; omega
    simp [-gLen, -gLe, -gIsi, mChain, hf, g0, g1, g2, g3, g4, c1, c2, c3, c4]
  · have c3 : gLe s [.int 1, .int (r0.length : Nat)] = some (.bl false) := by simp; omega
    simp [-gLen, -gLe, -gIsi, mChain, hf, g0, g1, g2, g3, g4, c1, c2, c3]
theorem noHa_head {ds : List D} {d0 : D} (hf : fzs ds = ds) (h0 : ds.head? = some d0) (l8 : ds.length ≤ 8) (hz : gIsi [] [d0, .ty "tuple"] = some (.bl false)) : NoHa (.tup ds) := fun s => by
  have l1 : 1 ≤ ds.length := by
    cases ds with
    | nil => cases h0
    | cons x y => simp
  have g0 : gIx s [.tup ds, .int 0] = some d0 := by
    show L2.atI ds 0 = _
    rw [atI_zero, ← List.head?_eq_getElem?, h0]
  have g2 : gIsi s [.tup ds, .ty "tuple"] = some (.bl true) := by simp
  have g3 : gIsi s [d0, .ty "tuple"] = some (.bl false) := hz
  have g4 : gLen s [.tup ds] = some (.int (ds.length : Nat)) := by simp
  have c1 : gLe s [.int 1, .int (ds.length : Nat)] = some (.bl true) := by simp; omega
  have c2 : gLe s [.int (ds.length : Nat), .int 8] = some (.bl true) := by simp; omega
  refine mkFn_rt rfl ?_
  simp [-gLen, -gLe, -gIsi, mChain, hf, g0, g2, g3, g4, c1, c2]
theorem noHa_tall {ds : List D} (hf : fzs ds = ds) (hz : ds.length = 0 ∨ 8 < ds.length) : NoHa (.tup ds) := fun s => by
  have g2 : gIsi s [.tup ds, .ty "tuple"] = some (.bl true) := by simp
  have g4 : gLen s [.tup ds] = some (.int (ds.length : Nat)) := by simp
  refine mkFn_rt rfl ?_
  by_cases z1 : 1 ≤ ds.length
  · have c3 : gLe s [.int 1, .int (ds.length : Nat)] = some (.bl true) := by simp; omega
    have c4 : gLe s [.int (ds.length : Nat), .int 8] = some (.bl false) := by simp; omega
    simp [-gLen, -gLe, -gIsi, mChain, hf, g2, g4, c3, c4]
  · have c3 : gLe s [.int 1, .int (ds.length : Nat)] = some (.bl false) := by simp; omega
    simp [-gLen, -gLe, -gIsi, mChain, hf, g2, g4, c3]
theorem noHa_other {d : D} (hf : fz d = d) (hz : gIsi [] [d, .ty "tuple"] = some (.bl false)) : NoHa d := fun s => by
  have g2 : gIsi s [d, .ty "tuple"] = some (.bl false) := hz
  refine mkFn_rt rfl ?_
  simp [-gLen, -gLe, -gIsi, mChain, hf, g2]
/-! ### what must be -/
theorem needH_ok {h : List (List Int)} {m : Nat} (H : HallOK h m) (s : Sto) : f_need_hallx [hallD h] s = .ok .non s := by
  refine mkFn_nx (σ := [some (hallD h)]) rfl ?_
  simp [hall_is H s]
theorem needH_ex {d : D} (hf : fz d = d) (H : NoHa d) (s : Sto) : f_need_hallx [d] s = .ex ("NoHall", none) s := by
  unfold f_need_hallx
  simp [mkFn, hf, H s, mRaise]
/-! ### kinds of things -/
def A0 (d : D) : Prop := d = .non ∨ (∃ b, d = .bl b) ∨ (∃ i : Int, d = .int i ∧ -1 ≤ i ∧ i < 10 ^ 39) ∨ d = .str "0" ∨ d = .str "1" ∨ d = .str ""
def A1 (d : D) : Prop := A0 d ∨ ∃ ds, (d = .tup ds ∨ d = .lst false ds) ∧ ds.length ≤ 8 ∧ ∀ x ∈ ds, A0 x
def A2 (N : Nat) (d : D) : Prop := A0 d ∨ ∃ ds, (d = .tup ds ∨ d = .lst false ds) ∧ ds.length ≤ N ∧ ∀ x ∈ ds, A1 x
theorem A0.fz {d : D} (h : A0 d) : fz d = d := by
  rcases h with rfl | ⟨b, rfl⟩ | ⟨i, rfl, _⟩ | rfl | rfl | rfl <;> rfl
theorem fzs_id {ds : List D} (h : ∀ x ∈ ds, Zm.fz x = x) : fzs ds = ds := by rw [fzs_eq]; exact (List.map_congr_left h).trans (List.map_id' ds)
theorem A1.fz {d : D} (h : A1 d) : Zm.fz d = d := by
  rcases h with h | ⟨ds, rfl | rfl, _, h⟩
  · exact h.fz
  · show D.tup (fzs ds) = _; rw [fzs_id fun x hx => (h x hx).fz]
  · show D.lst false (fzs ds) = _; rw [fzs_id fun x hx => (h x hx).fz]
theorem A2.fz {N : Nat} {d : D} (h : A2 N d) : Zm.fz d = d := by
  rcases h with h | ⟨ds, rfl | rfl, _, h⟩
  · exact h.fz
  · show D.tup (fzs ds) = _; rw [fzs_id fun x hx => (h x hx).fz]
  · show D.lst false (fzs ds) = _; rw [fzs_id fun x hx => (h x hx).fz]
theorem A2.mono {N N' : Nat} {d : D} (h : A2 N d) (hn : N ≤ N') : A2 N' d := by
  rcases h with h | ⟨ds, e, l, h⟩
  · exact .inl h
  · exact .inr ⟨ds, e, by omega, h⟩
theorem A1.two {N : Nat} {d : D} (h : A1 d) (hn : 8 ≤ N) : A2 N d := by
  rcases h with h | ⟨ds, e, l, h⟩
  · exact .inl h
  · exact .inr ⟨ds, e, by omega, fun x hx => .inl (h x hx)⟩
/-! numbers -/
/-! halls -/
end Zm
set_option linter.all false
set_option autoImplicit false
/-! LPP: ways over cells, worths, the greatest: plain Lean, no program in sight. -/
namespace Lpp
/-- a way from a cell to a cell, of that worth -/
inductive Way (w : Nat → Nat → Int) : Nat → Nat → Nat → Nat → Int → Prop
  | one (i k : Nat) : Way w i k i k (w i k)
  | down {i k j l : Nat} {W : Int} : Way w i k j l W → Way w i k (j + 1) l (W + w (j + 1) l)
  | right {i k j l : Nat} {W : Int} : Way w i k j l W → Way w i k j (l + 1) (W + w j (l + 1))
section
variable {w v : Nat → Nat → Int} {i k j l n m : Nat} {W : Int}
theorem Way.le (h : Way w i k j l W) : i ≤ j ∧ k ≤ l := by induction h <;> omega
theorem Way.cons_down (h : Way w (i + 1) k j l W) : Way w i k j l (w i k + W) := by
  induction h with
  | one => exact .down (.one i k)
  | down _ ih => have := Way.down ih; rw [Int.add_assoc] at this; exact this
  | right _ ih => have := Way.right ih; rw [Int.add_assoc] at this; exact this
theorem Way.cons_right (h : Way w i (k + 1) j l W) : Way w i k j l (w i k + W) := by
  induction h with
  | one => exact .right (.one i k)
  | down _ ih => have := Way.down ih; rw [Int.add_assoc] at this; exact this
  | right _ ih => have := Way.right ih; rw [Int.add_assoc] at this; exact this
/-- read from the end: cells (n - i, m - k) -/
theorem Way.back (hv : ∀ a b, a ≤ n → b ≤ m → v (n - a) (m - b) = w a b) (h : Way w i k j l W) : j ≤ n → l ≤ m → Way v (n - j) (m - l) (n - i) (m - k) W := by
  induction h with
  | one => intro h1 h2; rw [← hv i k h1 h2]; exact .one _ _
  | @down j l W h' ih =>
    intro h1 h2
    have := ih (by omega) h2
    rw [show n - j = (n - (j + 1)) + 1 by omega] at this
    have := this.cons_down
    rwa [hv (j + 1) l h1 h2, Int.add_comm] at this
  | @right j l W h' ih =>
    intro h1 h2
    have := ih h1 (by omega)
    rw [show m - l = (m - (l + 1)) + 1 by omega] at this
    have := this.cons_right
    rwa [hv j (l + 1) h1 h2, Int.add_comm] at this
/-- the greatest worth -/
structure Top (w : Nat → Nat → Int) (i k j l : Nat) (G : Int) : Prop where
  is : Way w i k j l G
  le : ∀ W, Way w i k j l W → W ≤ G
theorem Top.one {G G' : Int} (h : Top w i k j l G) (h' : Top w i k j l G') : G = G' := by
  have := h.le _ h'.is; have := h'.le _ h.is; omega
/-- the last step of a way -/
theorem Way.cases_last (h : Way w i k j l W) : (i = j ∧ k = l ∧ W = w j l) ∨ (∃ j' U, j = j' + 1 ∧ Way w i k j' l U ∧ W = U + w j l) ∨ (∃ l' U, l = l' + 1 ∧ Way w i k j l' U ∧ W = U + w j l) := by
  cases h with
  | one => exact .inl ⟨rfl, rfl, rfl⟩
  | down h => exact .inr (.inl ⟨_, _, rfl, h, rfl⟩)
  | right h => exact .inr (.inr ⟨_, _, rfl, h, rfl⟩)
/-- the table from a first column on: X is the greatest of all ways from (0, f), f from F on, with what those come with -/
structure Lv (w : Nat → Nat → Int) (T : Nat → Int) (j l : Nat) (X : Int) : Prop where
  is : ∃ f W, Way w 0 f j l W ∧ X = T f + W
  le : ∀ f W, Way w 0 f j l W → T f + W ≤ X
theorem Lv.one {T : Nat → Int} {X Y : Int} (h : Lv w T j l X) (h' : Lv w T j l Y) : X = Y := by
  obtain ⟨f, W, a, rfl⟩ := h.is
  obtain ⟨g, V, b, rfl⟩ := h'.is
  have := h.le _ _ b; have := h'.le _ _ a; omega
theorem Lv.first {T : Nat → Int} : Lv w T 0 0 (T 0 + w 0 0) := by
  refine ⟨⟨0, _, .one 0 0, rfl⟩, fun f W h => ?_⟩
  have := h.le
  rcases h.cases_last with ⟨_, e, rfl⟩ | ⟨_, _, e, _⟩ | ⟨_, _, e, _⟩
  · rw [e]; omega
  · omega
  · omega
theorem Way.left (hw : ∀ b, 0 ≤ w 0 b) : ∀ {f : Nat} {W : Int}, Way w 0 f j l W → ∃ V, Way w 0 0 j l V ∧ W ≤ V
  | 0, W, h => ⟨W, h, Int.le_refl W⟩
  | f + 1, W, h => by
    obtain ⟨V, a, b⟩ := Way.left hw h.cons_right
    exact ⟨V, a, by have := hw f; omega⟩
theorem Top.back {G : Int} (hv : ∀ a b, a ≤ n → b ≤ m → v (n - a) (m - b) = w a b) (hv' : ∀ a b, a ≤ n → b ≤ m → w (n - a) (m - b) = v a b) (h : Top w 0 0 n m G) : Top v 0 0 n m G := by
  have a := h.is.back hv (Nat.le_refl n) (Nat.le_refl m)
  simp only [Nat.sub_self, Nat.sub_zero] at a
  refine ⟨a, fun W q => h.le W ?_⟩
  have b := q.back hv' (Nat.le_refl n) (Nat.le_refl m)
  simpa only [Nat.sub_self, Nat.sub_zero] using b
end
end Lpp
set_option linter.all false
set_option autoImplicit false
set_option maxRecDepth 100000
/-! GEX: machines with exceptions: steps. -/
namespace Zm
open PySem Lpp
section
variable {np ns : Nat} {a a' b b' c c' e : MS} {ds : List D} {s : Sto} {x : Xc} {σ : Env} {m : M}
theorem fn_same {np ns : Nat} {a b : MS} {ds : List D} {s : Sto} (h : a (ds.map some ++ List.replicate (ns - np) none) s = b (ds.map some ++ List.replicate (ns - np) none) s) : mkFn np ns a ds s = mkFn np ns b ds s := by
  unfold mkFn
  rw [h]
theorem fn_ex (hl : ds.length = np) (h : a (ds.map some ++ List.replicate (ns - np) none) s = .ex x (ds.map some ++ List.replicate (ns - np) none) s) : mkFn np ns a ds s = .ex x s := by
  unfold mkFn
  rw [if_pos hl, h]
theorem seq_nx (h : a σ s = .nx σ s) : mSeq a b σ s = b σ s := by simp only [mSeq, h, RS.then_nx]
theorem seq_ex (h : a σ s = .ex x σ s) : mSeq a b σ s = .ex x σ s := by simp only [mSeq, h, RS.then_ex]
theorem do_ex (h : m σ s = .ex x s) : mDo m σ s = .ex x σ s := by simp only [mDo, h, R.to_ex]
theorem ex1 (hl : ds.length = np) (h1 : a (ds.map some ++ List.replicate (ns - np) none) s = .ex x (ds.map some ++ List.replicate (ns - np) none) s) : mkFn np ns (mSeq a c) ds s = .ex x s := fn_ex hl (seq_ex h1)
end
theorem rp_hall (h : List (List Int)) : Rp .any (eT (eT eI)) h (hallD h) := ⟨fz_hall h, trivial⟩
theorem rp_in (i : Int) : Rp .any eI i (.int i) := ⟨rfl, trivial⟩
end Zm
set_option linter.all false
set_option autoImplicit false
set_option maxRecDepth 100000
/-! GL: reasoning about plain-typed programs. -/
namespace Zm
open PySem
section
variable {α β γ τ τ' ρ : Type} {s s' s1 : Sto} {t : G α} {x : α}
theorem eb_ok {k : α → B τ ρ} (h : t s = .ok x s') : eb t k s = k x s' := by unfold eb; rw [h]
@[simp] theorem eb_pr {k : α → B τ ρ} : eb (pr x) k s = k x s := rfl
@[simp] theorem lt_ap {k : α → B τ ρ} : lt x k s = k x s := rfl
theorem lt_eq {k : α → B τ ρ} : lt x k = k x := rfl
@[simp] theorem bd_pr {k : α → G β} : bd (pr x) k s = k x s := rfl
theorem sq_nx {a : B τ ρ} {k : τ → B τ' ρ} {v : τ} (h : a s = .nx v s') : sq a k s = k v s' := by unfold sq; rw [h]
theorem sq_rt {a : B τ ρ} {k : τ → B τ' ρ} {v : ρ} (h : a s = .rt v s') : sq a k s = .rt v s' := by unfold sq; rw [h]
@[simp] theorem sq_nxB {k : τ → B τ' ρ} {v : τ} : sq (nxB v) k s = k v s := rfl
theorem fnT_rt {b : B τ ρ} {r : ρ} (h : b s = .rt r s') : fnT b s = .ok r s' := by unfold fnT; rw [h]
theorem fnU_nx {b : B τ Unit} {v : τ} (h : b s = .nx v s') : fnU b s = .ok () s' := by unfold fnU; rw [h]
theorem ifB_ok {g : G Bool} {a b : B τ ρ} {z : Bool} (h : g s = .ok z s') : ifB g a b s = if z = true then a s' else b s' := by unfold ifB; rw [eb_ok h]; split <;> rfl
theorem orG_ok {a b : G Bool} {z : Bool} (h : a s = .ok z s') : orG a b s = if z = true then .ok true s' else b s' := by unfold orG; rw [bd_ok h]; split <;> rfl
theorem notG_ok {a : G Bool} {z : Bool} (h : a s = .ok z s') : notG a s = .ok (!z) s' := by unfold notG; rw [bd_ok h]; rfl
theorem orG_ff {a b : G Bool} {z : Bool} (h : a s = .ok false s') (h' : b s' = .ok z s1) : orG a b s = .ok z s1 := by rw [orG_ok h]; simpa using h'
/-! lists -/
theorem szM : (1000000 : Nat) ≤ sizeLine := by decide
theorem szL : (1000000 : Nat) < sizeLine := by decide
theorem ap_ok {xs : List β} {y : β} {k : List β → B τ ρ} (h : xs.length ≤ 1000000) : apB xs y k s = k (xs ++ [y]) s := by
  unfold apB; rw [if_pos (Nat.lt_of_le_of_lt h szL)]
theorem cat_ok {xs ys : List α} (h : xs.length + ys.length ≤ 1000000) : catT xs ys s = .ok (xs ++ ys) s := by
  unfold catT; rw [if_pos (Nat.le_trans h szM)]
theorem ix_get {xs : List α} {i : Nat} {x : α} (h : xs[i]? = some x) : ixT xs (i : Int) s = .ok x s := by
  unfold ixT; rw [atI_nat, h]
theorem ix_int {xs : List α} {j : Int} {i : Nat} {x : α} (hj : j = (i : Int)) (h : xs[i]? = some x) : ixT xs j s = .ok x s := by
  rw [hj]; exact ix_get h
theorem ix_last {xs : List α} {x : α} (h : xs.getLast? = some x) : ixT xs (-1) s = .ok x s := by
  unfold ixT; rw [atI_last, h]
theorem ix_lastA {xs : List α} {x : α} : ixT (xs ++ [x]) (-1) s = .ok x s := ix_last (by simp)
theorem ix_any {xs : List α} {j : Int} (h0 : 0 ≤ j) (h1 : j < xs.length) : ∃ x, ixT xs j s = .ok x s ∧ xs[j.toNat]? = some x ∧ x ∈ xs := by
  have h : j.toNat < xs.length := by omega
  exact ⟨xs[j.toNat], ix_int (i := j.toNat) (by omega) (List.getElem?_eq_getElem h), List.getElem?_eq_getElem h, List.getElem_mem h⟩
theorem range_ok {n : Nat} (h : n ≤ 1000000) : rangeT (n : Int) s = .ok (irg n) s := by
  have hb : big (n : Int) = true := decide_eq_true ⟨by omega, by omega⟩
  unfold rangeT; rw [if_pos hb]; rfl
theorem range_int {j : Int} (h0 : -1000000 ≤ j) (h : j ≤ 1000000) : rangeT j s = .ok (irg j.toNat) s := by
  have hb : big j = true := decide_eq_true ⟨by omega, by omega⟩
  unfold rangeT; rw [if_pos hb]
theorem range3_ok {i j : Int} (h0 : -1000000 ≤ i) (h : i ≤ 1000000) (h2 : -1000000 ≤ j) (h3 : j ≤ 1000000) : rangeT3 i j s = .ok (irgD i (i - j).toNat) s := by
  have hb : big i = true := decide_eq_true ⟨by omega, by omega⟩
  have hc : big j = true := decide_eq_true ⟨by omega, by omega⟩
  unfold rangeT3; rw [if_pos ⟨hb, hc⟩]
@[simp] theorem irg_len {n : Nat} : (irg n).length = n := by simp [irg]
@[simp] theorem irg2_len {i : Int} {n : Nat} : (irg2 i n).length = n := by simp [irg2]
@[simp] theorem irgD_len {i : Int} {n : Nat} : (irgD i n).length = n := by simp [irgD]
theorem irg_get {n i : Nat} (h : i < n) : (irg n)[i]? = some (i : Int) := by simp [irg, h]
theorem foldl_max : ∀ (xs : List Int) (x : Int), (∀ y ∈ x :: xs, y ≤ xs.foldl max x) ∧ xs.foldl max x ∈ x :: xs
  | [], x => by simp
  | y :: xs, x => by
    obtain ⟨h1, h2⟩ := foldl_max xs (max x y)
    rw [List.foldl_cons]
    refine ⟨fun z hz => ?_, ?_⟩
    · have a := h1 (max x y) (by simp)
      rcases List.mem_cons.mp hz with rfl | hz
      · omega
      rcases List.mem_cons.mp hz with rfl | hz
      · omega
      exact h1 z (by simp [hz])
    · rcases List.mem_cons.mp h2 with e | h2
      · rw [e]
        by_cases q : x ≤ y
        · rw [show max x y = y by omega]; simp
        · rw [show max x y = x by omega]; simp
      · simp [h2]
/-- the greatest of a list: what it is -/
def IsMax (xs : List Int) (m : Int) : Prop := m ∈ xs ∧ ∀ y ∈ xs, y ≤ m
def IsMin (xs : List Int) (m : Int) : Prop := m ∈ xs ∧ ∀ y ∈ xs, m ≤ y
theorem IsMax.one {xs : List Int} {m n : Int} (h : IsMax xs m) (h' : IsMax xs n) : m = n := by
  have := h.2 n h'.1; have := h'.2 m h.1; omega
theorem IsMin.one {xs : List Int} {m n : Int} (h : IsMin xs m) (h' : IsMin xs n) : m = n := by
  have := h.2 n h'.1; have := h'.2 m h.1; omega
theorem max_is {xs : List Int} {m : Int} (h : IsMax xs m) : maxT xs s = .ok m s := by
  cases xs with
  | nil => exact absurd h.1 (by simp)
  | cons x xs =>
    rw [maxT_cons]
    obtain ⟨h1, h2⟩ := foldl_max xs x
    rw [IsMax.one (xs := x :: xs) ⟨h2, h1⟩ h]
theorem mul_ok {x y : Int} (h1 : -(2 ^ 250) < x) (h2 : x < 2 ^ 250) (h3 : -(2 ^ 250) < y) (h4 : y < 2 ^ 250) : mulT x y s = .ok (x * y) s := by
  unfold mulT
  rw [if_pos ⟨sm_of (Nat.lt_of_lt_of_le (m := 2 ^ 250) (by omega) (Nat.pow_le_pow_right (by decide) (by decide))), sm_of (Nat.lt_of_lt_of_le (m := 2 ^ 250) (by omega) (Nat.pow_le_pow_right (by decide) (by decide)))⟩]
theorem pow10_ok {k : Nat} (h : k ≤ 1000) : powT 10 (k : Int) s = .ok (10 ^ k) s := by
  unfold powT
  rw [if_pos ⟨by omega, by omega, sm_of (Nat.lt_of_lt_of_le (m := 2 ^ 250) (by decide) (Nat.pow_le_pow_right (by decide) (by decide)))⟩]
  rfl
/-! loops -/
theorem for_nx {f : α → τ → B τ ρ} {x : α} {xs : List α} {v w : τ} (h : f x v s = .nx w s') : forT f (x :: xs) v s = forT f xs w s' := by
  conv => lhs; unfold forT
  rw [h]
theorem for_rt {f : α → τ → B τ ρ} {x : α} {xs : List α} {v : τ} {w : ρ} (h : f x v s = .rt w s') : forT f (x :: xs) v s = .rt w s' := by
  conv => lhs; unfold forT
  rw [h]
end
/-! ### draws: what a program hands back, whatever is drawn -/
/-- W s n C: the draws' state at n, after at most C draws -/
abbrev DS := Sto → Nat → Nat → Prop
class Dr (W : DS) : Prop where
  mono : ∀ {s n C C'}, W s n C → C ≤ C' → W s n C'
def Gets {α : Type} (W : DS) (n k : Nat) (t : G α) (P : α → Prop) : Prop := ∀ s C, W s n C → C + k ≤ 2 ^ 90 → ∃ x s', t s = .ok x s' ∧ P x ∧ W s' n (C + k)
def GetsB {τ ρ : Type} (W : DS) (n k : Nat) (b : B τ ρ) (P : τ → Prop) (Q : ρ → Prop) : Prop := ∀ s C, W s n C → C + k ≤ 2 ^ 90 →
  (∃ v s', b s = .nx v s' ∧ P v ∧ W s' n (C + k)) ∨ (∃ r s', b s = .rt r s' ∧ Q r ∧ W s' n (C + k))
section
variable {α β τ τ' ρ : Type} {W : DS} [Dr W] {n k k' : Nat} {t : G α} {x : α} {P : α → Prop}
theorem Gets.mono {P' : α → Prop} (h : Gets W n k t P) (hk : k ≤ k') (hp : ∀ x, P x → P' x) : Gets W n k' t P' := fun s C w hc => by
  obtain ⟨x, s', e, p, w'⟩ := h s C w (by omega)
  exact ⟨x, s', e, hp x p, Dr.mono w' (by omega)⟩
theorem gets_eq (h : ∀ s, t s = .ok x s) (p : P x) : Gets W n k t P := fun s C w hc => ⟨x, s, h s, p, Dr.mono w (by omega)⟩
theorem gets_pr (p : P x) : Gets W n k (pr x) P := (gets_eq (fun _ => rfl) p).mono (Nat.zero_le _) fun _ h => h
theorem gets_bd {f : α → G β} {Q : β → Prop} (h : Gets W n k t P) (q : ∀ x, P x → Gets W n (k' - k) (f x) Q) (hk : k ≤ k' := by omega) : Gets W n k' (bd t f) Q := fun s C w hc => by
  obtain ⟨x, s1, e, p, w1⟩ := h s C w (by omega)
  obtain ⟨y, s2, e2, p2, w2⟩ := q x p s1 (C + k) w1 (by omega)
  exact ⟨y, s2, by rw [bd_ok e]; exact e2, p2, by rw [show C + k' = C + k + (k' - k) by omega]; exact w2⟩
theorem gets_bdE {f : α → G β} {Q : β → Prop} (h : ∀ s, t s = .ok x s) (q : Gets W n k (f x) Q) : Gets W n k (bd t f) Q := fun s C w hc => by
  obtain ⟨y, s2, e2, r⟩ := q s C w hc
  exact ⟨y, s2, by rw [bd_ok (h s)]; exact e2, r⟩
theorem gets_fn {b : B τ ρ} {Q : ρ → Prop} (h : GetsB W n k b (fun _ => False) Q) : Gets W n k (fnT b) Q := fun s C w hc => by
  rcases h s C w hc with ⟨_, _, _, f, _⟩ | ⟨r, s', e, q, w'⟩
  · exact f.elim
  · exact ⟨r, s', fnT_rt e, q, w'⟩
theorem GetsB.mono {b : B τ ρ} {P P' : τ → Prop} {Q Q' : ρ → Prop} (h : GetsB W n k b P Q) (hk : k ≤ k') (hp : ∀ x, P x → P' x) (hq : ∀ x, Q x → Q' x) : GetsB W n k' b P' Q' := fun s C w hc => by
  rcases h s C w (by omega) with ⟨v, s', e, p, w'⟩ | ⟨v, s', e, p, w'⟩
  · exact .inl ⟨v, s', e, hp _ p, Dr.mono w' (by omega)⟩
  · exact .inr ⟨v, s', e, hq _ p, Dr.mono w' (by omega)⟩
variable {P : τ → Prop} {Q : ρ → Prop}
theorem gb_nx {v : τ} (p : P v) : GetsB W n k (nxB v) P Q := fun s C w hc => .inl ⟨v, s, rfl, p, Dr.mono w (by omega)⟩
theorem gb_rt {v : ρ} (p : Q v) : GetsB W n k (rtB v) P Q := fun s C w hc => .inr ⟨v, s, rfl, p, Dr.mono w (by omega)⟩
theorem gb_lt {f : α → B τ ρ} (h : GetsB W n k (f x) P Q) : GetsB W n k (lt x f) P Q := h
theorem gb_eb {P1 : α → Prop} {f : α → B τ ρ} (h : Gets W n k t P1) (q : ∀ x, P1 x → GetsB W n (k' - k) (f x) P Q) (hk : k ≤ k' := by omega) : GetsB W n k' (eb t f) P Q := fun s C w hc => by
  obtain ⟨x, s1, e, p, w1⟩ := h s C w (by omega)
  have := q x p s1 (C + k) w1 (by omega)
  rw [eb_ok e, show C + k' = C + k + (k' - k) by omega]; exact this
theorem gb_ebE {f : α → B τ ρ} (h : ∀ s, t s = .ok x s) (q : GetsB W n k (f x) P Q) : GetsB W n k (eb t f) P Q := fun s C w hc => by
  rw [eb_ok (h s)]; exact q s C w hc
theorem gb_ap {xs : List β} {y : β} {f : List β → B τ ρ} (hl : xs.length ≤ 1000000) (q : GetsB W n k (f (xs ++ [y])) P Q) : GetsB W n k (apB xs y f) P Q := fun s C w hc => by
  rw [ap_ok hl]; exact q s C w hc
theorem gb_if {c : Prop} [Decidable c] {a b : B τ ρ} (h1 : c → GetsB W n k a P Q) (h2 : ¬c → GetsB W n k b P Q) : GetsB W n k (if c then a else b) P Q := by
  split
  · exact h1 ‹_›
  · exact h2 ‹_›
/-- a test that is never so -/
theorem gb_ifF {g : G Bool} {a b : B τ ρ} (h : ∀ s, g s = .ok false s) (h1 : GetsB W n k b P Q) : GetsB W n k (ifB g a b) P Q := gb_ebE h h1
theorem gb_sq {b : B τ' ρ} {P1 : τ' → Prop} {f : τ' → B τ ρ} (h : GetsB W n k b P1 Q) (q : ∀ v, P1 v → GetsB W n (k' - k) (f v) P Q) (hk : k ≤ k' := by omega) : GetsB W n k' (sq b f) P Q := fun s C w hc => by
  rcases h s C w (by omega) with ⟨v, s1, e, p, w1⟩ | ⟨r, s1, e, p, w1⟩
  · rw [sq_nx e, show C + k' = C + k + (k' - k) by omega]; exact q v p s1 (C + k) w1 (by omega)
  · exact .inr ⟨r, s1, sq_rt e, p, Dr.mono w1 (by omega)⟩
theorem gb_forI {f : α → τ → B τ ρ} (I : Nat → τ → Prop) : ∀ (xs : List α) (j : Nat) (v : τ), I j v → (∀ i (hi : i < xs.length) v, I (j + i) v → GetsB W n k (f xs[i] v) (I (j + i + 1)) Q) → GetsB W n (k * xs.length) (forT f xs v) (I (j + xs.length)) Q
  | [], j, v, h0, _ => fun s C w hc => .inl ⟨v, s, rfl, h0, by simpa using w⟩
  | x :: xs, j, v, h0, st => fun s C w hc => by
    rw [List.length_cons, Nat.mul_succ] at hc ⊢
    rcases st 0 (by simp) v h0 s C w (by omega) with ⟨v1, s1, e, p, w1⟩ | ⟨r, s1, e, p, w1⟩
    · have ih := gb_forI I xs (j + 1) v1 p (fun i hi v h => by
        have := st (i + 1) (by simpa using hi) v (by rw [show j + (i + 1) = j + 1 + i by omega]; exact h)
        rw [show j + (i + 1) + 1 = j + 1 + i + 1 by omega] at this
        simpa using this) s1 (C + k) w1 (by omega)
      rw [show C + (k * xs.length + k) = C + k + k * xs.length by omega, show j + (xs.length + 1) = j + 1 + xs.length by omega, for_nx (by simpa using e)]
      exact ih
    · exact .inr ⟨r, s1, for_rt (by simpa using e), p, Dr.mono w1 (by omega)⟩
/-- a loop: what holds behind i turns -/
theorem gb_for {f : α → τ → B τ ρ} (I : Nat → τ → Prop) {xs : List α} {v : τ} (h0 : I 0 v) (st : ∀ i (hi : i < xs.length) v, I i v → GetsB W n k (f xs[i] v) (I (i + 1)) Q) : GetsB W n (k * xs.length) (forT f xs v) (I xs.length) Q := by
  have := gb_forI (W := W) (n := n) (k := k) (Q := Q) I xs 0 v h0 fun i hi v h => by simpa using st i hi v (by simpa using h)
  simpa using this
/-- .. of at most N turns -/
theorem gb_forN {f : α → τ → B τ ρ} (I : Nat → τ → Prop) {xs : List α} {v : τ} (k N : Nat) (hN : xs.length ≤ N) (h0 : I 0 v) (st : ∀ i (hi : i < xs.length) v, I i v → GetsB W n k (f xs[i] v) (I (i + 1)) Q) (hP : ∀ v, I xs.length v → P v) (hk : k * N ≤ k' := by omega) : GetsB W n k' (forT f xs v) P Q :=
  (gb_for I h0 st).mono (Nat.le_trans (Nat.mul_le_mul_left _ hN) hk) (fun v h => hP v h) fun _ h => h
theorem gets_mapG {f : β → G α} {P : α → Prop} (k N : Nat) {xs : List β} (hl : xs.length ≤ N) (hN : N ≤ 1000000) (h : ∀ x ∈ xs, Gets W n k (f x) P) (hk : k * N ≤ k' := by omega) : Gets W n k' (mapG xs f) (fun ys => ys.length = xs.length ∧ ∀ y ∈ ys, P y) := by
  have key : ∀ (zs : List β) (acc : List α), (∀ x ∈ zs, Gets W n k (f x) P) → acc.length + zs.length ≤ 1000000 → (∀ y ∈ acc, P y) → Gets W n (k * zs.length) (fun s => lcG (fun _ => pr true) f zs acc s) (fun ys => ys.length = acc.length + zs.length ∧ ∀ y ∈ ys, P y) := by
    intro zs
    induction zs with
    | nil => exact fun acc _ _ ha s C w hc => ⟨acc, s, rfl, ⟨by simp, ha⟩, by simpa using w⟩
    | cons z zs ih =>
      intro acc hz hl ha s C w hc
      rw [List.length_cons, Nat.mul_succ] at hc
      rw [List.length_cons] at hl
      obtain ⟨y, s1, e, p, w1⟩ := hz z (by simp) s C w (by omega)
      obtain ⟨ys, s2, e2, ⟨p1, p2⟩, w2⟩ := ih (acc ++ [y]) (fun x hx => hz x (by simp [hx])) (by simp; omega) (fun u hu => by
        rcases List.mem_append.mp hu with q | q
        · exact ha u q
        · simp at q; subst q; exact p) s1 (C + k) w1 (by omega)
      refine ⟨ys, s2, ?_, ⟨by rw [p1]; simp; omega, p2⟩, by rw [List.length_cons, Nat.mul_succ, show C + (k * zs.length + k) = C + k + k * zs.length by omega]; exact w2⟩
      show lcG _ _ _ _ _ = _
      unfold lcG
      simp only [pr_ap, if_true, e]
      rw [if_pos (by have := szM; omega)]
      exact e2
  have := key xs [] h (by simpa using Nat.le_trans hl hN) (by simp)
  refine Gets.mono (P := fun ys => ys.length = 0 + xs.length ∧ ∀ y ∈ ys, P y) this (Nat.le_trans (Nat.mul_le_mul_left _ hl) hk) fun ys hy => ⟨by omega, hy.2⟩
end
/-- without a draw, the store as it is -/
def Ps {α : Type} (t : G α) (P : α → Prop) : Prop := ∀ s, ∃ x, t s = .ok x s ∧ P x
theorem Ps.mono {α : Type} {t : G α} {P P' : α → Prop} (h : Ps t P) (q : ∀ x, P x → P' x) : Ps t P' := fun s => by
  obtain ⟨x, e, p⟩ := h s
  exact ⟨x, e, q x p⟩
/-- one that there is just one of -/
theorem Ps.one {α : Type} {t : G α} {P : α → Prop} {x : α} (h : Ps t P) (u : ∀ y, P y → y = x) (s : Sto) : t s = .ok x s := by
  obtain ⟨y, e, p⟩ := h s
  rw [u y p] at e; exact e
def PsB {τ ρ : Type} (b : B τ ρ) (P : τ → Prop) (Q : ρ → Prop) : Prop := ∀ s, (∃ v, b s = .nx v s ∧ P v) ∨ ∃ r, b s = .rt r s ∧ Q r
section
variable {α β τ τ' ρ : Type} {t : G α} {P : τ → Prop} {Q : ρ → Prop}
theorem ps_fn {b : B τ ρ} (h : PsB b (fun _ => False) Q) : Ps (fnT b) Q := fun s => by
  rcases h s with ⟨_, _, f⟩ | ⟨r, e, q⟩
  · exact f.elim
  · exact ⟨r, fnT_rt e, q⟩
theorem pb_nx {v : τ} (p : P v) : PsB (nxB v) P Q := fun s => .inl ⟨v, rfl, p⟩
theorem pb_rt {v : ρ} (p : Q v) : PsB (rtB v) P Q := fun s => .inr ⟨v, rfl, p⟩
theorem pb_lt {x : α} {f : α → B τ ρ} (h : PsB (f x) P Q) : PsB (lt x f) P Q := h
theorem pb_eb {P1 : α → Prop} {f : α → B τ ρ} (h : Ps t P1) (q : ∀ x, P1 x → PsB (f x) P Q) : PsB (eb t f) P Q := fun s => by
  obtain ⟨x, e, p⟩ := h s
  rw [eb_ok e]; exact q x p s
theorem pb_ebE {x : α} {f : α → B τ ρ} (h : ∀ s, t s = .ok x s) (q : PsB (f x) P Q) : PsB (eb t f) P Q := fun s => by
  rw [eb_ok (h s)]; exact q s
theorem pb_ap {xs : List β} {y : β} {f : List β → B τ ρ} (hl : xs.length ≤ 1000000) (q : PsB (f (xs ++ [y])) P Q) : PsB (apB xs y f) P Q := fun s => by
  rw [ap_ok hl]; exact q s
theorem pb_if {c : Prop} [Decidable c] {a b : B τ ρ} (h1 : c → PsB a P Q) (h2 : ¬c → PsB b P Q) : PsB (if c then a else b) P Q := by
  split
  · exact h1 ‹_›
  · exact h2 ‹_›
theorem pb_sq {b : B τ' ρ} {P1 : τ' → Prop} {f : τ' → B τ ρ} (h : PsB b P1 Q) (q : ∀ v, P1 v → PsB (f v) P Q) : PsB (sq b f) P Q := fun s => by
  rcases h s with ⟨v, e, p⟩ | ⟨r, e, p⟩
  · rw [sq_nx e]; exact q v p s
  · exact .inr ⟨r, sq_rt e, p⟩
theorem pb_for {f : α → τ → B τ ρ} (I : Nat → τ → Prop) {xs : List α} {v : τ} (h0 : I 0 v) (st : ∀ i (hi : i < xs.length) v, I i v → PsB (f xs[i] v) (I (i + 1)) Q) (hP : ∀ v, I xs.length v → P v) : PsB (forT f xs v) P Q := by
  have key : ∀ (xs : List α) (j : Nat) (v : τ), I j v → (∀ i (hi : i < xs.length) v, I (j + i) v → PsB (f xs[i] v) (I (j + i + 1)) Q) → PsB (forT f xs v) (I (j + xs.length)) Q := by
    intro xs
    induction xs with
    | nil => exact fun j v h _ s => .inl ⟨v, rfl, h⟩
    | cons x xs ih =>
      intro j v h st s
      rcases st 0 (by simp) v h s with ⟨v1, e, p⟩ | ⟨r, e, p⟩
      · have := ih (j + 1) v1 p (fun i hi v h => by
          have := st (i + 1) (by simpa using hi) v (by rw [show j + (i + 1) = j + 1 + i by omega]; exact h)
          rw [show j + (i + 1) + 1 = j + 1 + i + 1 by omega] at this
          simpa using this) s
        rw [for_nx (by simpa using e), List.length_cons, show j + (xs.length + 1) = j + 1 + xs.length by omega]
        exact this
      · exact .inr ⟨r, for_rt (by simpa using e), p⟩
  intro s
  rcases key xs 0 v h0 (fun i hi v h => by simpa using st i hi v (by simpa using h)) s with ⟨v, e, p⟩ | q
  · exact .inl ⟨v, e, hP v (by simpa using p)⟩
  · exact .inr q
end
/-! a law -/
/-- nothing is drawn -/
def W0t : DS := fun _ _ _ => True
instance : Dr W0t := ⟨fun _ _ => trivial⟩
theorem gb_new {τ ρ : Type} {W : DS} {K m k : Nat} {t : G Nat} {f : Nat → B τ ρ} {P : τ → Prop} {Q : ρ → Prop} (h : ∀ s, ∃ n s', t s = .ok n s' ∧ W s' n 0) (q : ∀ n, GetsB W n K (f n) P Q) (hK : K ≤ 2 ^ 90 := by decide) : GetsB W0t m k (eb t f) P Q := fun s C w hc => by
  obtain ⟨n, s1, e, w1⟩ := h s
  rw [eb_ok e]
  rcases q n s1 0 w1 (by omega) with ⟨v, s2, e2, p, _⟩ | ⟨v, s2, e2, p, _⟩
  · exact .inl ⟨v, s2, e2, p, trivial⟩
  · exact .inr ⟨v, s2, e2, p, trivial⟩
theorem good_of {g : List Int → G Bool} {f : Fn} (tf : ∀ ns s, Rf .pl eB (g ns s) (f [.ro ns] s)) (h : ∀ ns, Gets W0t 0 0 (g ns) (fun z => z = true)) : ∀ ns : List Int, ns.length ≤ 63 → ∃ s, f [.ro ns] [] = .ok (.bl true) s := fun ns _ => by
  obtain ⟨z, s, e, hz, _⟩ := h ns [] 0 trivial (by decide)
  subst hz
  have := tf ns []
  rw [e] at this
  obtain ⟨d, h1, h2⟩ := this
  rw [h2.bl] at h1
  exact ⟨s, h1⟩
theorem rp_ro (ns : List Int) : Rp .any eRo ns (.ro ns) := ⟨rfl, trivial⟩
end Zm
set_option linter.all false
set_option autoImplicit false
set_option maxRecDepth 100000
/-! GS: what the shared typed programs hand back. -/
namespace Zm
open PySem
--@ draws
instance : Dr Well := ⟨fun h hc => h.mono hc⟩
--@ halls and days
theorem ix_gets {W : DS} [Dr W] {α : Type} {n k : Nat} {xs : List α} {r : Int} {P : α → Prop} (h0 : 0 ≤ r) (h3 : r < xs.length) (h : ∀ x ∈ xs, P x) : Gets W n k (ixT xs r) P := fun s C w hc => by
  obtain ⟨x, e, _, m⟩ := ix_any (s := s) h0 h3
  exact ⟨x, s, e, h x m, Dr.mono w (by omega)⟩
--@ judged
theorem is_hall_T {h : List (List Int)} {m : Nat} (H : HallOK h m) (s : Sto) : g_is_hall ((eT (eT eI)).f h) s = .ok true s := by
  have := hall_is H s
  unfold g_is_hall
  rw [(eT (eT eI)).h]
  show (match f_is_hall [hallD h] s with
    | .ok (.bl r) s => R.ok r s
    | .ex x s => .ex x s
    | _ => .bad) = _
  rw [this]
theorem need_hall_T {h : List (List Int)} {m : Nat} (H : HallOK h m) (s : Sto) : g_need_hall h s = .ok () s := by
  unfold g_need_hall
  exact fnU_nx (v := ()) (by rw [ifB_ok (notG_ok (is_hall_T H s))]; rfl)
theorem amount_T {i : Int} (s : Sto) : g_is_amount (eI.f i) s = .ok (decide (0 ≤ i)) s := by
  unfold g_is_amount
  rfl
theorem whole_T {i : Int} (s : Sto) : g_is_whole (eI.f i) s = .ok true s := by
  unfold g_is_whole
  rfl
theorem need_neighbours_T {h : List (List Int)} {k : Nat} (hk : k + 1 < h.length) (s : Sto) : g_need_neighbours h (k : Int) s = .ok () s := by
  unfold g_need_neighbours
  refine fnU_nx (v := ()) ?_
  rw [ifB_ok (orG_ff (notG_ok (amount_T s)) (pr_ap _ _))]
  simp; rw [if_neg (by omega)]; rfl
theorem need_both_T {h : List (List Int)} {m : Nat} (H : HallOK h m) {k : Nat} (hk : k + 1 < h.length) (s : Sto) : g_need_both h (k : Int) s = .ok () s := by
  unfold g_need_both
  refine fnU_nx (v := ()) ?_
  rw [eb_ok (need_hall_T H s), eb_ok (need_neighbours_T hk s)]; rfl
--@ leavings
end Zm
set_option linter.all false
set_option autoImplicit false
set_option maxRecDepth 100000
/-! GD: draws of the other kinds; houses, halls by them. -/
namespace Zm
open PySem
theorem draw_ok {s : Sto} {n C : Nat} {w : Int} (hw : Well s n C) (hC : C < 2 ^ 100) (h1 : 0 < w) (h2 : w < 2 ^ 100) :
    ∃ r s', f__law_draw [.box n, .int w] s = .ok (.int r) s' ∧ 0 ≤ r ∧ r < w ∧ Well s' n (C + 1) := by
  obtain ⟨a, b, c, e, ha, hb, hb2, hc, hc2⟩ := hw
  have hn : n < s.length := (List.getElem?_eq_some_iff.mp e).1
  have i0 := ix_box e (at3_0)
  have i1 := ix_box e (at3_1)
  have i2 := ix_box e (at3_2)
  by_cases h0 : 1 < a
  · refine ⟨a % w, s.set n [.int (a / w), .int b, .int c], ?_, Int.emod_nonneg _ (by omega), Int.emod_lt_of_pos _ h1, a / w, b, c, by simp [hn], Int.ediv_nonneg ha (by omega), hb, hb2, hc, by omega⟩
    have d1 := div_s s a w h1 (by omega)
    simp [f__law_draw, mkFn, i0, h0, h1, mSetD, mSt, e, d1, uSet, L2.ixN, mRetV]
  · obtain ⟨s1, hs⟩ : ∃ s1, s.set n [.int a, .int b, .int (c + 1)] = s1 := ⟨_, rfl⟩
    have e1 : s1[n]? = some [.int a, .int b, .int (c + 1)] := by rw [← hs]; simp [hn]
    have j1 := ix_box e1 (at3_1)
    have j2 := ix_box e1 (at3_2)
    have q1 := mul_s s1 (c + 1) 982451653 (by omega) (by omega) (by decide) (by decide)
    have q2 := pow_s s1 (b + (c + 1) * 982451653) 5 (by decide) (by decide) (by omega) (by omega)
    have q3 := mul_s s1 (c + 1) 15485863 (by omega) (by omega) (by decide) (by decide)
    obtain ⟨m1, hm1⟩ : ∃ m, (b + (c + 1) * 982451653) ^ 5 % 1000000000000000000000000000000000000003 = m := ⟨_, rfl⟩
    have m1a : 0 ≤ m1 := hm1 ▸ Int.emod_nonneg _ (by decide)
    have m1b : m1 < 1000000000000000000000000000000000000003 := hm1 ▸ Int.emod_lt_of_pos _ (by decide)
    have q4 := pow_s s1 (m1 + (c + 1) * 15485863) 3 (by decide) (by decide) (by omega) (by omega)
    obtain ⟨m2, hm2⟩ : ∃ m, (m1 + (c + 1) * 15485863) ^ 3 % 1000000000000000000000000000000000067 = m := ⟨_, rfl⟩
    have q5 := div_s s1 m2 1024 (by decide) (by decide)
    refine ⟨m2 / 1024 % w, s1, ?_, Int.emod_nonneg _ (by omega), Int.emod_lt_of_pos _ h1, a, b, c + 1, e1, by omega, hb, hb2, by omega, by omega⟩
    simp [f__law_draw, mkFn, i0, i1, i2, h0, h1, mSetD, mSt, e, uSet, L2.ixN, mRetV, hs, j1, j2, p10, q1, q2, q3, q4, q5, hm1, hm2]
theorem draw_gets {n : Nat} {w : Int} (h1 : 0 < w) (h2 : w < 2 ^ 100) : Gets Well n 1 (g__law_draw n w) (fun r => 0 ≤ r ∧ r < w) := fun s C hw hc => by
  obtain ⟨r, s', e, r0, rw_, w'⟩ := draw_ok hw (show C < 2 ^ 100 by omega) h1 h2
  exact ⟨r, s', by unfold g__law_draw; rw [e], ⟨r0, rw_⟩, w'⟩
theorem bag1_ok {c : Int} (s : Sto) : ∃ n s', g__law_bag c s = .ok n s' ∧ Well s' n 0 := by
  have m0 := Int.emod_nonneg c (b := 10000000000000000000000000000000000000121) (by decide)
  have m1 := Int.emod_lt_of_pos c (b := 10000000000000000000000000000000000000121) (by decide)
  refine ⟨s.length, s ++ [[.int (if c - 1000000000000000000 > 1 then c - 1000000000000000000 else 1), .int (c % 10000000000000000000000000000000000000121), .int 0]], ?_, _, _, _, by simp; exact ⟨rfl, rfl, rfl⟩, ?_, ?_, ?_, by decide, by decide⟩
  · unfold g__law_bag
    simp [f__law_bag, mkFn, mBox, p10, sl3]
  · split <;> omega
  · omega
  · omega
theorem cell_at_T {ns : List Int} {k : Int} (h : 0 ≤ k) : Ps (g__law_cell_at ns k) (fun _ => True) := by
  unfold g__law_cell_at
  refine ps_fn (pb_if (fun c => pb_eb (P1 := fun _ => True) (fun s => ?_) fun x _ => pb_rt trivial) fun _ => pb_rt trivial)
  obtain ⟨x, e, _⟩ := ix_any (s := s) h (of_decide_eq_true c)
  exact ⟨x, e, trivial⟩
theorem oneD_gets {n : Nat} {w : Int} (h1 : 0 < w) (h2 : w < 2 ^ 100) : Gets Well n 1 (bd (g__law_draw n w) fun y => pr (1 + y)) (fun m => 1 ≤ m ∧ m ≤ w) :=
  gets_bd (draw_gets h1 h2) fun y hy => gets_pr ⟨by omega, by omega⟩
theorem powC {k : Nat} (h : k ≤ 1000) (s : Sto) : powT 10 (k : Int) s = .ok (10 ^ k) s := pow10_ok h
/-- a hall whose minutes are not too great -/
def Low (b : Int) (h : List (List Int)) : Prop := ∀ r ∈ h, ∀ x ∈ r, x < b
end Zm
set_option linter.all false
set_option autoImplicit false
namespace Zm
open PySem Lpp
/-! LQ: what leavings are by ways -/
def at2 (h : List (List Int)) (j l : Nat) : Int := (h.getD j []).getD l 0
end Zm
set_option linter.all false
set_option autoImplicit false
set_option maxRecDepth 100000
/-! GH: held_by. -/
namespace Zm
open PySem
/-- a table of so many rows, so many in each, none below nought -/
structure Tab (L : List (List Int)) (n m : Nat) : Prop where
  rows : L.length = n
  row : ∀ r ∈ L, r.length = m ∧ Nn r
theorem Tab.at {L : List (List Int)} {n m j l : Nat} (h : Tab L n m) (hj : j < n) (hl : l < m) : ∃ r, L[j]? = some r ∧ r[l]? = some (at2 L j l) ∧ 0 ≤ at2 L j l := by
  have hlen := h.rows
  have e : L[j]? = some L[j] := List.getElem?_eq_getElem (by omega)
  obtain ⟨rl, rn⟩ := h.row _ (List.getElem_mem (show j < L.length by omega))
  have e2 : L[j][l]? = some L[j][l] := List.getElem?_eq_getElem (by omega)
  have e3 : at2 L j l = L[j][l] := by unfold at2; rw [List.getD_eq_getElem?_getD, List.getD_eq_getElem?_getD, e]; simp [e2]
  exact ⟨L[j], e, by rw [e3]; exact e2, by rw [e3]; exact rn _ (List.getElem_mem _)⟩
theorem getD_get {t : List Int} {l : Nat} (h : l < t.length) : t[l]? = some (t.getD l 0) := by
  rw [List.getD_eq_getElem?_getD, List.getElem?_eq_getElem h]; rfl
end Zm
set_option linter.all false
set_option autoImplicit false
/-! MV: minutes moved between two rows: plain. -/
namespace Mv
def ps (a : Nat → Int) : Nat → Int
  | 0 => 0
  | k + 1 => ps a k + a k
/-- the greatest worth from the first to the k-th, of two rows -/
def gw (a b : Nat → Int) : Nat → Int
  | 0 => 0
  | k + 1 => max (gw a b k) (ps a (k + 1)) + b k
/-- a way that changes over at c -/
def val (a b : Nat → Int) (p q c : Nat) : Int := ps a (c + 1) - ps a p + (ps b (q + 1) - ps b c)
def Dom (m : Nat) (a b a' b' : Nat → Int) : Prop := ∀ p q c, p ≤ c → c ≤ q → q < m → ∃ c', p ≤ c' ∧ c' ≤ q ∧ val a b p q c ≤ val a' b' p q c'
theorem Dom.refl {m : Nat} {a b : Nat → Int} : Dom m a b a b := fun p q c h1 h2 _ => ⟨c, h1, h2, Int.le_refl _⟩
theorem Dom.trans {m : Nat} {a b a' b' a2 b2 : Nat → Int} (h : Dom m a b a' b') (h' : Dom m a' b' a2 b2) : Dom m a b a2 b2 := fun p q c h1 h2 h3 => by
  obtain ⟨c', e1, e2, e3⟩ := h p q c h1 h2 h3
  obtain ⟨d, f1, f2, f3⟩ := h' p q c' e1 e2 h3
  exact ⟨d, f1, f2, Int.le_trans e3 f3⟩
theorem ps_congr {a a' : Nat → Int} : ∀ {k : Nat}, (∀ c, c < k → a c = a' c) → ps a k = ps a' k
  | 0, _ => rfl
  | k + 1, h => by simp only [ps]; rw [ps_congr fun c hc => h c (by omega), h k (by omega)]
theorem gw_congr {a b a' b' : Nat → Int} : ∀ {k : Nat}, (∀ c, c < k → a c = a' c ∧ b c = b' c) → gw a b k = gw a' b' k
  | 0, _ => rfl
  | k + 1, h => by
    simp only [gw]
    rw [gw_congr fun c hc => h c (by omega), ps_congr (k := k + 1) fun c hc => (h c (by omega)).1, (h k (by omega)).2]
theorem Dom.congr {m : Nat} {a b a' b' : Nat → Int} (h : ∀ c, c < m → a c = a' c ∧ b c = b' c) : Dom m a b a' b' := fun p q c h1 h2 h3 => by
  refine ⟨c, h1, h2, ?_⟩
  unfold val
  rw [ps_congr (k := c + 1) fun d hd => (h d (by omega)).1, ps_congr (k := p) fun d hd => (h d (by omega)).1, ps_congr (k := q + 1) fun d hd => (h d (by omega)).2, ps_congr (k := c) fun d hd => (h d (by omega)).2]
  omega
/-- gw is the greatest of all ways from the first -/
theorem gw_le {a b : Nat → Int} : ∀ {q c : Nat}, c ≤ q → val a b 0 q c ≤ gw a b (q + 1)
  | 0, c, h => by
    have : c = 0 := by omega
    subst this
    simp only [val, gw, ps]; omega
  | q + 1, c, h => by
    simp only [gw]
    by_cases e : c = q + 1
    · subst e; simp only [val, ps]; omega
    · have ih := gw_le (a := a) (b := b) (q := q) (c := c) (by omega)
      have h1 : val a b 0 (q + 1) c = val a b 0 q c + b (q + 1) := by simp only [val, ps]; omega
      simp only [gw] at ih
      rw [h1]; omega
theorem gw_is {a b : Nat → Int} (h : 0 ≤ a 0) : ∀ (q : Nat), ∃ c, c ≤ q ∧ gw a b (q + 1) = val a b 0 q c
  | 0 => ⟨0, Nat.le_refl _, by simp only [gw, val, ps]; omega⟩
  | q + 1 => by
    obtain ⟨c, h1, h2⟩ := gw_is (a := a) (b := b) h q
    by_cases e : gw a b (q + 1) ≤ ps a (q + 2)
    · refine ⟨q + 1, Nat.le_refl _, ?_⟩
      have : gw a b (q + 1 + 1) = max (gw a b (q + 1)) (ps a (q + 2)) + b (q + 1) := rfl
      rw [this]
      simp only [val, ps] at e ⊢; omega
    · refine ⟨c, by omega, ?_⟩
      have e1 : gw a b (q + 1 + 1) = max (gw a b (q + 1)) (ps a (q + 2)) + b (q + 1) := rfl
      have e2 : val a b 0 (q + 1) c = val a b 0 q c + b (q + 1) := by simp only [val, ps]; omega
      rw [e1, e2]; omega
theorem Dom.gw {m : Nat} {a b a' b' : Nat → Int} (h : Dom m a b a' b') (h0 : 0 ≤ a 0) {q : Nat} (hq : q < m) : gw a b (q + 1) ≤ gw a' b' (q + 1) := by
  obtain ⟨c, c1, c2⟩ := gw_is (b := b) h0 q
  obtain ⟨c', d1, d2, d3⟩ := h 0 q c (by omega) c1 hq
  have := gw_le (a := a') (b := b') d2
  omega
/-! one minute moved -/
def lead (a b : Nat → Int) (c : Nat) : Int := ps a (c + 1) - ps b c
def mva (a : Nat → Int) (k : Nat) : Nat → Int := fun c => if c = k then a c - 1 else a c
def mvb (b : Nat → Int) (k : Nat) : Nat → Int := fun c => if c = k then b c + 1 else b c
theorem ps_mva {a : Nat → Int} {k : Nat} : ∀ j, ps (mva a k) j = ps a j - (if k < j then 1 else 0)
  | 0 => by simp [ps]
  | j + 1 => by
    simp only [ps, ps_mva j, mva]
    by_cases e : j = k
    · subst e; simp; omega
    · rw [if_neg e]
      by_cases c : k < j
      · rw [if_pos c, if_pos (by omega)]; omega
      · rw [if_neg c, if_neg (by omega)]; omega
theorem ps_mvb {a : Nat → Int} {k : Nat} : ∀ j, ps (mvb a k) j = ps a j + (if k < j then 1 else 0)
  | 0 => by simp [ps]
  | j + 1 => by
    simp only [ps, ps_mvb j, mvb]
    by_cases e : j = k
    · subst e; simp; omega
    · rw [if_neg e]
      by_cases c : k < j
      · rw [if_pos c, if_pos (by omega)]; omega
      · rw [if_neg c, if_neg (by omega)]; omega
theorem val_mv {a b : Nat → Int} {k p q c : Nat} (h1 : p ≤ c) (h2 : c ≤ q) : val (mva a k) (mvb b k) p q c = val a b p q c + (if k < p then 1 else 0) + (if k ≤ q then 1 else 0) - (if k ≤ c then 1 else 0) - (if k < c then 1 else 0) := by
  simp only [val, ps_mva, ps_mvb]
  have e1 : (k < c + 1) = (k ≤ c) := by simp [Nat.lt_succ_iff]
  have e2 : (k < q + 1) = (k ≤ q) := by simp [Nat.lt_succ_iff]
  simp only [e1, e2]
  omega
/-- the first one at whom the lead is greatest -/
structure First (a b : Nat → Int) (m k : Nat) : Prop where
  lt : k < m
  ge : ∀ c, c < m → lead a b c ≤ lead a b k
  first : ∀ c, c < k → lead a b c < lead a b k
theorem val_lead {a b : Nat → Int} {p q c : Nat} : val a b p q c = lead a b c - ps a p + ps b (q + 1) := by simp only [val, lead]; omega
theorem move_dom {a b : Nat → Int} {m k : Nat} (f : First a b m k) : Dom m a b (mva a k) (mvb b k) ∧ Dom m (mva a k) (mvb b k) a b := by
  have hk := f.lt
  refine ⟨fun p q c h1 h2 h3 => ?_, fun p q c h1 h2 h3 => ?_⟩
  · by_cases e : p ≤ k ∧ k ≤ q
    · refine ⟨k, e.1, e.2, ?_⟩
      have := f.ge c (by omega)
      rw [val_mv e.1 e.2, if_neg (by omega), if_pos e.2, if_pos (Nat.le_refl _), if_neg (by omega)]
      rw [val_lead, val_lead]; omega
    · refine ⟨c, h1, h2, ?_⟩
      rw [val_mv h1 h2]
      by_cases c1 : k < p
      · rw [if_pos c1, if_pos (by omega), if_pos (by omega), if_pos (by omega)]; omega
      · rw [if_neg c1, if_neg (by omega), if_neg (by omega), if_neg (by omega)]; omega
  · by_cases e : p ≤ k ∧ k ≤ q
    · refine ⟨k, e.1, e.2, ?_⟩
      have g := f.ge c (by omega)
      rw [val_mv h1 h2, if_neg (by omega), if_pos e.2]
      rw [val_lead, val_lead]
      by_cases c1 : k ≤ c
      · rw [if_pos c1]
        by_cases c2 : k < c
        · rw [if_pos c2]; omega
        · rw [if_neg c2]; omega
      · have := f.first c (by omega)
        rw [if_neg c1, if_neg (by omega)]; omega
    · refine ⟨c, h1, h2, ?_⟩
      rw [val_mv h1 h2]
      by_cases c1 : k < p
      · rw [if_pos c1, if_pos (by omega), if_pos (by omega), if_pos (by omega)]; omega
      · rw [if_neg c1, if_neg (by omega), if_neg (by omega), if_neg (by omega)]; omega
theorem first_ex (a b : Nat → Int) : ∀ m, 0 < m → ∃ k, First a b m k
  | 1, _ => ⟨0, by omega, fun c hc => by have : c = 0 := by omega
                                         subst this; exact Int.le_refl _, fun c hc => by omega⟩
  | m + 2, _ => by
    obtain ⟨k, f⟩ := first_ex a b (m + 1) (by omega)
    by_cases e : lead a b (m + 1) ≤ lead a b k
    · refine ⟨k, by have := f.lt; omega, fun c hc => ?_, f.first⟩
      by_cases q : c = m + 1
      · subst q; exact e
      · exact f.ge c (by omega)
    · refine ⟨m + 1, by omega, fun c hc => ?_, fun c hc => ?_⟩
      · by_cases q : c = m + 1
        · subst q; exact Int.le_refl _
        · have := f.ge c (by omega); omega
      · have := f.ge c (by omega); omega
theorem gw_lead {a b : Nat → Int} {m k : Nat} (h0 : 0 ≤ a 0) (f : First a b m k) : gw a b m = lead a b k + ps b m := by
  have hk := f.lt
  obtain ⟨m', rfl⟩ : ∃ m', m = m' + 1 := ⟨m - 1, by omega⟩
  obtain ⟨c, c1, c2⟩ := gw_is (b := b) h0 m'
  have h1 := gw_le (a := a) (b := b) (q := m') (c := k) (by omega)
  have h2 := f.ge c (by omega)
  rw [val_lead] at c2 h1
  simp only [ps] at c2 h1 ⊢
  omega
/-- where the greatest lead is above nought, the first one has a minute -/
theorem first_pos {a b : Nat → Int} {m k : Nat} (hb : ∀ c, c < m → 0 ≤ b c) (f : First a b m k) (h : 0 < lead a b k) : 0 < a k := by
  have hk := f.lt
  cases k with
  | zero => simp only [lead, ps] at h; omega
  | succ k =>
    have := f.first k (by omega)
    have := hb k (by omega)
    simp only [lead, ps] at this h ⊢
    have q := f.first k (by omega)
    simp only [lead, ps] at q
    omega
/-! rows of a wished total -/
def rb (W : Nat → Int) (k : Nat) (T : Int) : Int := W (k + 1) - max (W k) T
def ra (W both : Nat → Int) (k : Nat) (T : Int) : Int := both k - rb W k T
def recon (W both : Nat → Int) : Nat → Int → List (Int × Int)
  | 0, _ => []
  | k + 1, T => recon W both k (T - ra W both k T) ++ [(ra W both k T, rb W k T)]
def fa (l : List (Int × Int)) (c : Nat) : Int := (l.getD c (0, 0)).1
def fb (l : List (Int × Int)) (c : Nat) : Int := (l.getD c (0, 0)).2
theorem recon_len {W both : Nat → Int} : ∀ (k : Nat) (T : Int), (recon W both k T).length = k
  | 0, _ => rfl
  | k + 1, T => by simp [recon, recon_len k]
theorem f_old {l : List (Int × Int)} {x : Int × Int} {c : Nat} (h : c < l.length) : fa (l ++ [x]) c = fa l c ∧ fb (l ++ [x]) c = fb l c := by
  unfold fa fb
  simp [List.getD_eq_getElem?_getD, List.getElem?_append_left h]
theorem f_new {l : List (Int × Int)} {x : Int × Int} : fa (l ++ [x]) l.length = x.1 ∧ fb (l ++ [x]) l.length = x.2 := by
  unfold fa fb
  simp [List.getD_eq_getElem?_getD]
/-- how the greatest worths and the sums of so many go together -/
structure Lace (W both : Nat → Int) (m : Nat) : Prop where
  z : W 0 = 0
  up : ∀ c, c < m → W c ≤ W (c + 1)
  s1 : ∀ c, c < m → ps both c - W c ≤ ps both (c + 1) - W (c + 1)
  s2 : ∀ c, c < m → ps both (c + 1) - W (c + 1) ≤ W c
theorem recon_ok {W both : Nat → Int} : ∀ {m : Nat} {T : Int}, Lace W both m → ps both m - W m ≤ T → T ≤ W m →
    (∀ c, c < m → 0 ≤ fa (recon W both m T) c ∧ 0 ≤ fb (recon W both m T) c ∧ fa (recon W both m T) c + fb (recon W both m T) c = both c) ∧
    ps (fa (recon W both m T)) m = T ∧ ∀ c, c ≤ m → gw (fa (recon W both m T)) (fb (recon W both m T)) c = W c
  | 0, T, L, h1, h2 => by
    have := L.z
    simp only [ps] at h1
    refine ⟨fun c hc => by omega, by simp only [ps]; omega, fun c hc => ?_⟩
    have : c = 0 := by omega
    subst this; simp only [gw]; omega
  | m + 1, T, L, h1, h2 => by
    have u := L.up m (by omega)
    have s1 := L.s1 m (by omega)
    have s2 := L.s2 m (by omega)
    have L' : Lace W both m := ⟨L.z, fun c hc => L.up c (by omega), fun c hc => L.s1 c (by omega), fun c hc => L.s2 c (by omega)⟩
    have ps1 : ps both (m + 1) = ps both m + both m := rfl
    obtain ⟨i1, i2, i3⟩ := recon_ok (m := m) (T := T - ra W both m T) L' (by unfold ra rb; omega) (by unfold ra rb; omega)
    have hl := recon_len (W := W) (both := both) m (T - ra W both m T)
    have old : ∀ c, c < m → fa (recon W both (m + 1) T) c = fa (recon W both m (T - ra W both m T)) c ∧ fb (recon W both (m + 1) T) c = fb (recon W both m (T - ra W both m T)) c := fun c hc => f_old (by omega)
    have new : fa (recon W both (m + 1) T) m = ra W both m T ∧ fb (recon W both (m + 1) T) m = rb W m T := by
      have := f_new (l := recon W both m (T - ra W both m T)) (x := (ra W both m T, rb W m T))
      rw [hl] at this; exact this
    have pm : ps (fa (recon W both (m + 1) T)) m = T - ra W both m T := by
      rw [ps_congr fun c hc => (old c hc).1]; exact i2
    refine ⟨fun c hc => ?_, ?_, fun c hc => ?_⟩
    · by_cases e : c = m
      · subst e; rw [new.1, new.2]; unfold ra rb; omega
      · rw [(old c (by omega)).1, (old c (by omega)).2]; exact i1 c (by omega)
    · show ps _ m + _ = _
      rw [pm, new.1]; omega
    · by_cases e : c = m + 1
      · subst e
        show max (gw _ _ m) (ps _ (m + 1)) + _ = _
        rw [gw_congr fun c hc => old c hc, i3 m (Nat.le_refl _), new.2]
        have : ps (fa (recon W both (m + 1) T)) (m + 1) = T := by show ps _ m + _ = _; rw [pm, new.1]; omega
        rw [this]; unfold rb; omega
      · rw [gw_congr fun d hd => old d (by omega)]; exact i3 c (by omega)
/-- there is just one such -/
theorem recon_one {a b : Nat → Int} : ∀ (m : Nat), ∀ (W both : Nat → Int), (∀ c, c ≤ m → gw a b c = W c) → (∀ c, c < m → a c + b c = both c) → ∀ c, c < m → fa (recon W both m (ps a m)) c = a c ∧ fb (recon W both m (ps a m)) c = b c
  | 0, _, _, _, _, c, hc => by omega
  | m + 1, W, both, h1, h2, c, hc => by
    have e1 : rb W m (ps a (m + 1)) = b m := by
      have := h1 (m + 1) (Nat.le_refl _)
      have q := h1 m (by omega)
      have g : gw a b (m + 1) = max (gw a b m) (ps a (m + 1)) + b m := rfl
      unfold rb; omega
    have e2 : ra W both m (ps a (m + 1)) = a m := by
      have := h2 m (by omega)
      unfold ra; rw [e1]; omega
    have e3 : ps a (m + 1) - ra W both m (ps a (m + 1)) = ps a m := by rw [e2]; simp only [ps]; omega
    have hl := recon_len (W := W) (both := both) m (ps a m)
    have er : recon W both (m + 1) (ps a (m + 1)) = recon W both m (ps a m) ++ [(a m, b m)] := by
      show recon W both m (ps a (m + 1) - ra W both m (ps a (m + 1))) ++ [_] = _
      rw [e3, e1, e2]
    rw [er]
    by_cases e : c = m
    · subst e
      have := f_new (l := recon W both c (ps a c)) (x := (a c, b c))
      rw [hl] at this; exact this
    · have := f_old (l := recon W both m (ps a m)) (x := (a m, b m)) (c := c) (by omega)
      rw [this.1, this.2]
      exact recon_one m W both (fun d hd => h1 d (by omega)) (fun d hd => h2 d (by omega)) c (by omega)
/-- two rows lace -/
theorem lace_of {a b : Nat → Int} {m : Nat} (ha : ∀ c, c < m → 0 ≤ a c) (hb : ∀ c, c < m → 0 ≤ b c) : Lace (gw a b) (fun c => a c + b c) m := by
  have psB : ∀ k, ps (fun c => a c + b c) k = ps a k + ps b k := by
    intro k
    induction k with
    | zero => rfl
    | succ k ih => simp only [ps, ih]; omega
  have ge : ∀ c, c ≤ m → ps a c ≤ gw a b c ∧ ps b c ≤ gw a b c := by
    intro c
    induction c with
    | zero => exact fun _ => ⟨Int.le_refl _, Int.le_refl _⟩
    | succ c ih =>
      intro h
      have := ih (by omega)
      have := hb c (by omega)
      simp only [gw, ps]
      omega
  refine ⟨rfl, fun c hc => ?_, fun c hc => ?_, fun c hc => ?_⟩
  · have := hb c hc; simp only [gw]; omega
  · have := ge c (by omega)
    have := ha c hc
    rw [psB, psB]; simp only [gw, ps]; omega
  · have := ge c (by omega)
    rw [psB]; simp only [gw, ps]; omega
def Eqv (m : Nat) (a b a' b' : Nat → Int) : Prop := Dom m a b a' b' ∧ Dom m a' b' a b
theorem Eqv.symm {m : Nat} {a b a' b' : Nat → Int} (h : Eqv m a b a' b') : Eqv m a' b' a b := ⟨h.2, h.1⟩
theorem Eqv.trans {m : Nat} {a b a' b' a2 b2 : Nat → Int} (h : Eqv m a b a' b') (h' : Eqv m a' b' a2 b2) : Eqv m a b a2 b2 := ⟨h.1.trans h'.1, h'.2.trans h.2⟩
/-- one fewer, by one move -/
theorem recon_step {W both : Nat → Int} {m : Nat} {T : Int} (hm : 0 < m) (L : Lace W both m) (h1 : ps both m - W m < T) (h2 : T ≤ W m) :
    ∃ k, First (fa (recon W both m T)) (fb (recon W both m T)) m k ∧ (∀ c, c < m → fa (recon W both m (T - 1)) c = mva (fa (recon W both m T)) k c ∧ fb (recon W both m (T - 1)) c = mvb (fb (recon W both m T)) k c) := by
  obtain ⟨i1, i2, i3⟩ := recon_ok L (by omega) h2
  generalize fa (recon W both m T) = a at i1 i2 i3 ⊢
  generalize fb (recon W both m T) = b at i1 i2 i3 ⊢
  obtain ⟨k, f⟩ := first_ex a b m hm
  have hk := f.lt
  have g := gw_lead (i1 0 hm).1 f
  rw [i3 m (Nat.le_refl _)] at g
  have psB : ∀ k, k ≤ m → ps both k = ps a k + ps b k := by
    intro k
    induction k with
    | zero => exact fun _ => rfl
    | succ k ih => intro h; have := ih (by omega); have := (i1 k (by omega)).2.2; simp only [ps]; omega
  have pb := psB m (Nat.le_refl _)
  have pos := first_pos (fun c hc => (i1 c hc).2.1) f (by omega)
  obtain ⟨d1, d2⟩ := move_dom f
  have a0 : 0 ≤ mva a k 0 := by
    unfold mva
    split
    · rename_i e; subst e; omega
    · exact (i1 0 hm).1
  have gws : ∀ c, c ≤ m → gw (mva a k) (mvb b k) c = W c := fun c hc => by
    cases c with
    | zero => exact L.z.symm
    | succ c =>
      have := d1.gw (i1 0 hm).1 (q := c) (by omega)
      have := d2.gw a0 (q := c) (by omega)
      have := i3 (c + 1) hc
      omega
  have bo : ∀ c, c < m → mva a k c + mvb b k c = both c := fun c hc => by
    have := (i1 c hc).2.2
    unfold mva mvb
    split <;> omega
  have pT : ps (mva a k) m = T - 1 := by rw [ps_mva, if_pos hk, i2]
  refine ⟨k, f, fun c hc => ?_⟩
  have := recon_one m W both gws bo c hc
  rw [pT] at this; exact this
theorem recon_down {W both : Nat → Int} {m : Nat} (hm : 0 < m) (L : Lace W both m) : ∀ (n : Nat) (T : Int), ps both m - W m ≤ T - n → T ≤ W m → Eqv m (fa (recon W both m T)) (fb (recon W both m T)) (fa (recon W both m (T - n))) (fb (recon W both m (T - n)))
  | 0, T, _, _ => by simp only [Int.natCast_zero, Int.sub_zero]; exact ⟨.refl, .refl⟩
  | n + 1, T, h1, h2 => by
    obtain ⟨k, f, e⟩ := recon_step hm L (T := T) (by omega) h2
    have ih := recon_down hm L n (T - 1) (by omega) (by omega)
    rw [show T - ((n + 1 : Nat) : Int) = T - 1 - n by omega]
    obtain ⟨d1, d2⟩ := move_dom f
    refine Eqv.trans ⟨d1.trans (Dom.congr fun c hc => ⟨(e c hc).1.symm, (e c hc).2.symm⟩), (Dom.congr fun c hc => e c hc).trans d2⟩ ih
/-- all that have these worths and sums are alike everywhere -/
theorem recon_all {W both : Nat → Int} {m : Nat} (hm : 0 < m) (L : Lace W both m) {T U : Int} (h1 : ps both m - W m ≤ T) (h2 : T ≤ W m) (h3 : ps both m - W m ≤ U) (h4 : U ≤ W m) : Eqv m (fa (recon W both m T)) (fb (recon W both m T)) (fa (recon W both m U)) (fb (recon W both m U)) := by
  by_cases e : U ≤ T
  · have := recon_down hm L (T - U).toNat T (by omega) h2
    rw [show T - ((T - U).toNat : Int) = U by omega] at this; exact this
  · have := recon_down hm L (U - T).toNat U (by omega) h4
    rw [show U - ((U - T).toNat : Int) = T by omega] at this; exact this.symm
/-- two rows, and those of another total -/
theorem two_all {a b : Nat → Int} {m : Nat} (hm : 0 < m) (ha : ∀ c, c < m → 0 ≤ a c) (hb : ∀ c, c < m → 0 ≤ b c) {T : Int} (h1 : ps a m + ps b m - gw a b m ≤ T) (h2 : T ≤ gw a b m) :
    Eqv m a b (fa (recon (gw a b) (fun c => a c + b c) m T)) (fb (recon (gw a b) (fun c => a c + b c) m T)) := by
  have L := lace_of ha hb
  have psB : ∀ k, ps (fun c => a c + b c) k = ps a k + ps b k := by
    intro k
    induction k with
    | zero => rfl
    | succ k ih => simp only [ps, ih]; omega
  have ge : ∀ c, c ≤ m → ps a c ≤ gw a b c ∧ ps b c ≤ gw a b c := by
    intro c
    induction c with
    | zero => exact fun _ => ⟨Int.le_refl _, Int.le_refl _⟩
    | succ c ih =>
      intro h
      have := ih (by omega)
      have := hb c (by omega)
      simp only [gw, ps]
      omega
  have gm := ge m (Nat.le_refl _)
  have one := recon_one m (gw a b) (fun c => a c + b c) (fun c _ => rfl) (fun c _ => rfl)
  have := recon_all hm L (T := ps a m) (U := T) (by rw [psB]; omega) gm.1 (by rw [psB]; omega) h2
  exact Eqv.trans ⟨Dom.congr fun c hc => ⟨(one c hc).1.symm, (one c hc).2.symm⟩, Dom.congr fun c hc => one c hc⟩ this
end Mv
set_option linter.all false
set_option autoImplicit false
set_option maxRecDepth 100000
/-! GM: moves, typed. -/
namespace Zm
open PySem Lpp Mv
def rf (h : List (List Int)) (i : Nat) : Nat → Int := fun c => at2 h i c
theorem row_get {h : List (List Int)} {m i : Nat} (H : ∀ r ∈ h, r.length = m) (hi : i < h.length) : ∃ r, h[i]? = some r ∧ r.length = m ∧ ∀ c, c < m → r[c]? = some (rf h i c) := by
  have e : h[i]? = some h[i] := List.getElem?_eq_getElem hi
  have rl := H _ (List.getElem_mem hi)
  refine ⟨h[i], e, rl, fun c hc => ?_⟩
  unfold rf at2
  rw [List.getD_eq_getElem?_getD (l := h), e, Option.getD_some]
  exact getD_get (by omega)
def lst (f : Nat → Int) (m : Nat) : List Int := (List.range m).map f
@[simp] theorem lst_len {f : Nat → Int} {m : Nat} : (lst f m).length = m := by simp [lst]
theorem lst_get {f : Nat → Int} {m c : Nat} (h : c < m) : (lst f m)[c]? = some (f c) := by simp [lst, h]
theorem lst_snoc {f : Nat → Int} {m : Nat} : lst f m ++ [f m] = lst f (m + 1) := by simp [lst, List.range_succ]
theorem lst_eq {f : Nat → Int} {m : Nat} {r : List Int} (hl : r.length = m) (h : ∀ c, c < m → r[c]? = some (f c)) : r = lst f m := by
  apply List.ext_getElem?
  intro c
  by_cases hc : c < m
  · rw [h c hc, lst_get hc]
  · rw [List.getElem?_eq_none (by omega), List.getElem?_eq_none (by simp; omega)]
theorem lst_sum {f : Nat → Int} : ∀ {m : Nat}, (lst f m).sum = ps f m
  | 0 => rfl
  | m + 1 => by rw [← lst_snoc, List.sum_append, lst_sum]; simp [ps]
theorem sum_ps (r : List Int) (a : Nat → Int) (h : ∀ c, c < r.length → r[c]? = some (a c)) : r.sum = ps a r.length := by
  rw [← lst_sum, ← lst_eq rfl h]
theorem zip_get {α β : Type} {xs : List α} {ys : List β} {i : Nat} {x : α} {y : β} (hx : xs[i]? = some x) (hy : ys[i]? = some y) (h : i < (xs.zip ys).length) : (xs.zip ys)[i] = (x, y) := by
  rw [List.getElem_zip]
  have h1 := (List.getElem?_eq_some_iff.mp hx)
  have h2 := (List.getElem?_eq_some_iff.mp hy)
  rw [h1.2, h2.2]
section
variable {h : List (List Int)} {m i : Nat} (H : HallOK h m) (hi : i + 1 < h.length)
include H hi
theorem leads_T (s : Sto) : g_leads h (i : Int) s = .ok (lst (lead (rf h i) (rf h (i + 1))) m) s := by
  have m8 := H.m8
  obtain ⟨r1, e1, l1, v1⟩ := row_get (fun r hr => (H.row r hr).1) (show i < h.length by omega)
  obtain ⟨r2, e2, l2, v2⟩ := row_get (fun r hr => (H.row r hr).1) hi
  have key : Ps (g_leads h (i : Int)) (fun l => l = lst (lead (rf h i) (rf h (i + 1))) m) := by
    unfold g_leads
    refine ps_fn (pb_lt (pb_lt (pb_lt (pb_sq (P1 := fun v : Int × Int × List Int => v.2.2 = lst (lead (rf h i) (rf h (i + 1))) m) ?_ fun v hv => pb_rt hv))))
    refine pb_ebE (x := r1.zip r2) (fun s => by rw [bd_ok (ix_get e1), show ((i : Int) + 1) = ((i + 1 : Nat) : Int) by omega, bd_ok (ix_get e2)]; rfl) ?_
    refine pb_for (fun k (v : Int × Int × List Int) => v.1 - v.2.1 = ps (rf h i) k - ps (rf h (i + 1)) k ∧ v.2.2 = lst (lead (rf h i) (rf h (i + 1))) k) ⟨rfl, rfl⟩ (fun k hk v ⟨p1, p2⟩ => ?_) (fun v hv => by have := hv.2; rwa [List.length_zip, l1, l2, Nat.min_self] at this)
    have hk' : k < m := by rw [List.length_zip, l1, l2, Nat.min_self] at hk; exact hk
    rw [zip_get (v1 k hk') (v2 k hk')]
    refine pb_lt (pb_lt (pb_ap (by rw [p2]; simp; omega) (pb_nx ⟨?_, ?_⟩)))
    · simp only [ps]; omega
    · show v.2.2 ++ [_] = _
      rw [p2, ← lst_snoc]
      congr 2
      simp only [lead, ps]; omega
  exact key.one (fun y hy => hy) s
theorem greatest_ways_T (s : Sto) : g_greatest_ways h (i : Int) s = .ok (lst (fun k => gw (rf h i) (rf h (i + 1)) (k + 1)) m) s := by
  have m8 := H.m8
  obtain ⟨r2, e2, l2, v2⟩ := row_get (fun r hr => (H.row r hr).1) hi
  have key : Ps (g_greatest_ways h (i : Int)) (fun l => l = lst (fun k => gw (rf h i) (rf h (i + 1)) (k + 1)) m) := by
    unfold g_greatest_ways
    refine ps_fn (pb_lt (pb_lt (pb_lt (pb_sq (P1 := fun v : Int × Int × List Int => v.2.2 = lst (fun k => gw (rf h i) (rf h (i + 1)) (k + 1)) m) ?_ fun v hv => pb_rt hv))))
    refine pb_ebE (x := (lst (lead (rf h i) (rf h (i + 1))) m).zip r2) (fun s => by rw [bd_ok (leads_T H hi s), show ((i : Int) + 1) = ((i + 1 : Nat) : Int) by omega, bd_ok (ix_get e2)]; rfl) ?_
    refine pb_for (fun k (v : Int × Int × List Int) => v.1 = gw (rf h i) (rf h (i + 1)) k - ps (rf h (i + 1)) k ∧ v.2.1 = ps (rf h (i + 1)) k ∧ v.2.2 = lst (fun k => gw (rf h i) (rf h (i + 1)) (k + 1)) k) ⟨rfl, rfl, rfl⟩ (fun k hk v ⟨p1, p2, p3⟩ => ?_) (fun v hv => by have := hv.2.2; rwa [List.length_zip, lst_len, l2, Nat.min_self] at this)
    have hk' : k < m := by rw [List.length_zip, lst_len, l2, Nat.min_self] at hk; exact hk
    rw [zip_get (lst_get hk') (v2 k hk')]
    have q : max v.1 (lead (rf h i) (rf h (i + 1)) k) = gw (rf h i) (rf h (i + 1)) (k + 1) - ps (rf h (i + 1)) (k + 1) := by simp only [gw, lead, ps] at *; omega
    refine pb_lt (pb_lt (pb_ap (by rw [p3]; simp; omega) (pb_nx ⟨q, by simp only [ps]; omega, ?_⟩)))
    show v.2.2 ++ [_] = _
    rw [p3, ← lst_snoc]
    congr 2
    dsimp only
    rw [q]; simp only [ps]; omega
  exact key.one (fun y hy => hy) s
/-- the greatest lead, what can be moved -/
def onX (h : List (List Int)) (i m : Nat) : Int := gw (rf h i) (rf h (i + 1)) m - ps (rf h (i + 1)) m
def offX (h : List (List Int)) (i m : Nat) : Int := gw (rf h i) (rf h (i + 1)) m - ps (rf h i) m
omit hi in
theorem rf_nn {j c : Nat} (hj : j < h.length) (hc : c < m) : 0 ≤ rf h j c := by
  obtain ⟨r, e1, _, v⟩ := row_get (fun r hr => (H.row r hr).1) hj
  exact (H.row r (List.mem_of_getElem? e1)).2 _ (List.mem_of_getElem? (v c hc))
omit hi in
theorem row_sum {j : Nat} (hj : j < h.length) (s : Sto) : bd (ixT h (j : Int)) (fun y => pr y.sum) s = .ok (ps (rf h j) m) s := by
  obtain ⟨r, e1, l1, v⟩ := row_get (fun r hr => (H.row r hr).1) hj
  rw [bd_ok (ix_get e1), sum_ps r (rf h j) (by rw [l1]; exact v), l1]; rfl
theorem can_move_by_T (s : Sto) : g_can_move_by h (i : Int) s = .ok (onX h i m, offX h i m) s := by
  have m1 := H.m1
  obtain ⟨k, f⟩ := first_ex (rf h i) (rf h (i + 1)) m (by omega)
  have g := gw_lead (rf_nn H (show i < h.length by omega) (show 0 < m by omega)) f
  have e : ∀ s, g_greatest_lead h (i : Int) s = .ok (onX h i m) s := fun s => by
    unfold g_greatest_lead
    refine fnT_rt ?_
    rw [eb_ok (x := onX h i m) (s' := s)]
    · rfl
    · rw [bd_ok (leads_T H hi s)]
      refine max_is ⟨?_, fun y hy => ?_⟩
      · have := lst_get (f := lead (rf h i) (rf h (i + 1))) f.lt
        have := List.mem_of_getElem? this
        have e2 : onX h i m = lead (rf h i) (rf h (i + 1)) k := by unfold onX; omega
        rw [e2]; exact this
      · obtain ⟨c, hc, rfl⟩ := List.mem_map.mp hy
        have := f.ge c (by simpa using hc)
        unfold onX; omega
  unfold g_can_move_by
  refine fnT_rt ?_
  rw [eb_ok (e s), eb_ok (x := (onX h i m, offX h i m)) (s' := s)]
  · rfl
  · rw [bd_ok (a := offX h i m) (s' := s)]
    · rfl
    · have q1 := row_sum H hi s
      have q2 := row_sum H (show i < h.length by omega) s
      rw [show ((i : Int) + 1) = ((i + 1 : Nat) : Int) by omega]
      rw [bd_ok (a := onX h i m + ps (rf h (i + 1)) m) (s' := s) (by rw [bd_ok q1]; rfl), bd_ok q2]
      show R.ok _ _ = R.ok _ _
      congr 1
      unfold onX offX; omega
theorem can_move_T (s : Sto) : g_can_move h (i : Int) s = .ok (onX h i m, offX h i m) s := by
  unfold g_can_move
  exact fnT_rt (by rw [eb_ok (need_both_T H hi s), eb_ok (can_move_by_T H hi s)]; rfl)
/-- the rows of another total, and the hall with them -/
def rec2 (h : List (List Int)) (i m : Nat) (T : Int) : List (Int × Int) := recon (gw (rf h i) (rf h (i + 1))) (fun c => rf h i c + rf h (i + 1) c) m T
def newH (h : List (List Int)) (i m : Nat) (T : Int) : List (List Int) := h.take i ++ [(rec2 h i m T).map (·.1), (rec2 h i m T).map (·.2)] ++ h.drop (i + 2)
theorem with_total_of_T (T : Int) (s : Sto) : g_with_total_of h (i : Int) T s = .ok (newH h i m T) s := by
  have m8 := H.m8; have h8 := H.l8; have m1 := H.m1
  obtain ⟨r1, e1, l1, v1⟩ := row_get (fun r hr => (H.row r hr).1) (show i < h.length by omega)
  obtain ⟨r2, e2, l2, v2⟩ := row_get (fun r hr => (H.row r hr).1) hi
  have i1 : ((i : Int) + 1) = ((i + 1 : Nat) : Int) := by omega
  obtain ⟨W, hW⟩ : ∃ W, gw (rf h i) (rf h (i + 1)) = W := ⟨_, rfl⟩
  obtain ⟨bo, hbo⟩ : ∃ bo : Nat → Int, (fun c => rf h i c + rf h (i + 1) c) = bo := ⟨_, rfl⟩
  have key : Ps (g_with_total_of h (i : Int) T) (fun l => l = newH h i m T) := by
    unfold g_with_total_of
    refine ps_fn ?_
    refine pb_ebE (x := lst W (m + 1)) (fun s => ?_) ?_
    · rw [bd_ok (greatest_ways_T H hi s), cat_ok (by simp; omega)]
      congr 1
      refine lst_eq (by simp) fun c hc => ?_
      cases c with
      | zero => rw [← hW]; rfl
      | succ c => rw [List.singleton_append, List.getElem?_cons_succ, lst_get (by omega), ← hW]
    refine pb_lt (pb_lt (pb_sq (P1 := fun v : List Int × List Int × Int => recon W bo m T = v.2.1.reverse.zip v.1.reverse ∧ v.1.length = m ∧ v.2.1.length = m) ?_ fun v ⟨p1, p2, p3⟩ => ?_))
    · refine pb_ebE (x := irgD ((m : Int) - 1) m) (fun s => ?_) ?_
      · rw [bd_ok (a := (m : Int) - 1) (s' := s) (by rw [bd_ok (a := (m : Int)) (s' := s) (by rw [bd_ok (ix_get e1), l1]; rfl)]; rfl), bd_pr, range3_ok (by omega) (by omega) (by omega) (by omega)]
        congr 2; omega
      · refine pb_for (fun j (v : List Int × List Int × Int) => recon W bo m T = recon W bo (m - j) v.2.2 ++ v.2.1.reverse.zip v.1.reverse ∧ v.1.length = j ∧ v.2.1.length = j) ⟨by simp, rfl, rfl⟩ (fun j hj v ⟨p1, p2, p3⟩ => ?_) (fun v hv => by
          rw [irgD_len, Nat.sub_self] at hv
          exact ⟨by simpa [recon] using hv.1, hv.2.1, hv.2.2⟩)
        rw [irgD_len] at hj
        obtain ⟨c, hc⟩ : ∃ c, m - j = c + 1 := ⟨m - j - 1, by omega⟩
        rw [show (irgD ((m : Int) - 1) m)[j]'(by simpa using hj) = (c : Int) by simp [irgD]; omega]
        have cm : c < m := by omega
        have c1 : ((c : Int) + 1) = ((c + 1 : Nat) : Int) := by omega
        refine pb_ebE (x := bo c) (fun s => ?_) ?_
        · rw [bd_ok (a := rf h i c) (s' := s) (by rw [bd_ok (ix_get e1)]; exact ix_get (v1 c cm)), bd_ok (a := rf h (i + 1) c) (s' := s) (by rw [i1, bd_ok (ix_get e2)]; exact ix_get (v2 c cm)), ← hbo]; rfl
        refine pb_ebE (x := rb W c v.2.2) (fun s => ?_) (pb_ap (by omega) ?_)
        · rw [c1, bd_ok (ix_get (lst_get (show c + 1 < m + 1 by omega))), bd_ok (a := max (W c) v.2.2) (s' := s) (by rw [bd_ok (ix_get (lst_get (show c < m + 1 by omega)))]; rfl)]; rfl
        refine pb_ebE (x := ra W bo c v.2.2) (fun s => by rw [bd_ok (ix_lastA)]; rfl) (pb_ap (by omega) ?_)
        refine pb_ebE (x := ra W bo c v.2.2) (fun s => ix_lastA) (pb_lt (pb_nx ⟨?_, by simp [p2], by simp [p3]⟩))
        rw [p1, hc, show m - (j + 1) = c by omega]
        show (recon W bo c (v.2.2 - ra W bo c v.2.2) ++ [_]) ++ _ = recon W bo c (v.2.2 - ra W bo c v.2.2) ++ (v.2.1 ++ [ra W bo c v.2.2]).reverse.zip (v.1 ++ [rb W c v.2.2]).reverse
        simp
    · refine pb_ebE (x := newH h i m T) (fun s => ?_) (pb_rt rfl)
      unfold g_with_rows
      refine fnT_rt ?_
      rw [eb_ok (x := newH h i m T) (s' := s)]
      · rfl
      · rw [cut_to, show ((i : Int) + 2) = ((i + 2 : Nat) : Int) by omega, cut_from, bd_ok (cat_ok (by simp; omega)), cat_ok (by simp; omega)]
        congr 1
        unfold newH rec2
        rw [hW, hbo, p1]
        congr 2
        have a1 : (v.2.1.reverse.zip v.1.reverse).map (·.1) = v.2.1.reverse := List.map_fst_zip (by simp; omega)
        have a2 : (v.2.1.reverse.zip v.1.reverse).map (·.2) = v.1.reverse := List.map_snd_zip (by simp; omega)
        rw [a1, a2]
  exact key.one (fun y hy => hy) s
theorem moved_by_T (many : Int) (s : Sto) : g_moved_by h (i : Int) many s = .ok (if onX h i m < many ∨ many < -offX h i m then none else some (newH h i m (ps (rf h i) m - many))) s := by
  unfold g_moved_by
  refine fnT_rt ?_
  rw [eb_ok (can_move_by_T H hi s)]
  dsimp only
  by_cases c : onX h i m < many ∨ many < -offX h i m
  · rw [if_pos (by simp; omega), if_pos c]; rfl
  · rw [if_neg (by simp; omega), if_neg c]
    have q2 := row_sum H (show i < h.length by omega) s
    rw [eb_ok (x := some (newH h i m (ps (rf h i) m - many))) (s' := s)]
    · rfl
    · rw [bd_ok (a := newH h i m (ps (rf h i) m - many)) (s' := s)]
      · rfl
      · rw [bd_ok (a := ps (rf h i) m - many) (s' := s) (by rw [bd_ok q2]; rfl)]
        exact with_total_of_T H hi _ s
theorem moved_T (many : Int) (s : Sto) : g_moved h (i : Int) many s = .ok (if onX h i m < many ∨ many < -offX h i m then none else some (newH h i m (ps (rf h i) m - many))) s := by
  unfold g_moved
  refine fnT_rt ?_
  rw [eb_ok (need_both_T H hi s), ifB_ok (notG_ok (whole_T s))]
  simp only [Bool.not_true, Bool.false_eq_true, if_false]
  rw [eb_ok (moved_by_T H hi many s)]; rfl
end
end Zm
set_option linter.all false
set_option autoImplicit false
set_option maxRecDepth 100000
/-! P06: the plain law. -/
namespace Zm
open PySem
/-! where the row goes, told of a part -/
section
variable {L : List (List Int)} {t : List Int} {n m : Nat} (h : Tab L n m) (hn : Nn t) (ht : t.length = m)
include h hn ht
end
/-! noughts -/
/-! all at once -/
end Zm
set_option linter.all false
set_option autoImplicit false
set_option maxRecDepth 100000
/-! GU: moves that nobody sees. -/
namespace Zm
open PySem Lpp Mv
/-! two rows: their ways -/
/-! cut between customers -/
def cutH (f b : Nat) (h : List (List Int)) : List (List Int) := h.map fun r => (r.take b).drop f
/-- nobody outside sees a difference, on whatever day, of customers next to one another -/
def Un (m : Nat) (h h' : List (List Int)) : Prop := ∀ f b, f < b → b ≤ m → ∀ t, DayOK t (b - f) → inTo (cutH f b h) t = inTo (cutH f b h') t
theorem Un.trans {m : Nat} {h h' h2 : List (List Int)} (a : Un m h h') (b : Un m h' h2) : Un m h h2 := fun f c h1 h2 t ht => (a f c h1 h2 t ht).trans (b f c h1 h2 t ht)
theorem Un.symm {m : Nat} {h h' : List (List Int)} (a : Un m h h') : Un m h' h := fun f c h1 h2 t ht => (a f c h1 h2 t ht).symm
section
variable {h : List (List Int)} {m i : Nat} (H : HallOK h m) (hi : i + 1 < h.length) {T : Int} (h1 : ps (rf h i) m + ps (rf h (i + 1)) m - gw (rf h i) (rf h (i + 1)) m ≤ T) (h2 : T ≤ gw (rf h i) (rf h (i + 1)) m)
include H hi h1 h2
theorem rec2_ok : (rec2 h i m T).length = m ∧ (∀ c, c < m → 0 ≤ fa (rec2 h i m T) c ∧ 0 ≤ fb (rec2 h i m T) c ∧ fa (rec2 h i m T) c + fb (rec2 h i m T) c = rf h i c + rf h (i + 1) c) ∧ ps (fa (rec2 h i m T)) m = T ∧
    (∀ c, c ≤ m → gw (fa (rec2 h i m T)) (fb (rec2 h i m T)) c = gw (rf h i) (rf h (i + 1)) c) ∧ Eqv m (rf h i) (rf h (i + 1)) (fa (rec2 h i m T)) (fb (rec2 h i m T)) := by
  have m1 := H.m1
  have ha : ∀ c, c < m → 0 ≤ rf h i c := fun c hc => rf_nn H (by omega) hc
  have hb : ∀ c, c < m → 0 ≤ rf h (i + 1) c := fun c hc => rf_nn H hi hc
  have psB : ∀ k, ps (fun c => rf h i c + rf h (i + 1) c) k = ps (rf h i) k + ps (rf h (i + 1)) k := by
    intro k
    induction k with
    | zero => rfl
    | succ k ih => simp only [ps, ih]; omega
  obtain ⟨a, b, c⟩ := recon_ok (lace_of ha hb) (T := T) (by rw [psB]; exact h1) h2
  exact ⟨recon_len _ _, a, b, c, two_all (by omega) ha hb h1 h2⟩
theorem new_rows : (rec2 h i m T).map (·.1) = lst (fa (rec2 h i m T)) m ∧ (rec2 h i m T).map (·.2) = lst (fb (rec2 h i m T)) m := by
  obtain ⟨l, _⟩ := rec2_ok H hi h1 h2
  have g : ∀ c, c < m → (rec2 h i m T)[c]? = some ((rec2 h i m T).getD c (0, 0)) := fun c hc => by
    rw [List.getD_eq_getElem?_getD, List.getElem?_eq_getElem (by omega)]; rfl
  refine ⟨lst_eq (by simp [l]) fun c hc => ?_, lst_eq (by simp [l]) fun c hc => ?_⟩
  · rw [List.getElem?_map, g c hc]; rfl
  · rw [List.getElem?_map, g c hc]; rfl
end
theorem onX_nn {h : List (List Int)} {m i : Nat} (H : HallOK h m) (hi : i + 1 < h.length) : 0 ≤ onX h i m ∧ 0 ≤ offX h i m := by
  have ge : ∀ c, c ≤ m → ps (rf h i) c ≤ gw (rf h i) (rf h (i + 1)) c ∧ ps (rf h (i + 1)) c ≤ gw (rf h i) (rf h (i + 1)) c := by
    intro c
    induction c with
    | zero => exact fun _ => ⟨Int.le_refl _, Int.le_refl _⟩
    | succ c ih =>
      intro q
      have := ih (by omega)
      have := rf_nn H hi (show c < m by omega)
      simp only [gw, ps]
      omega
  have := ge m (Nat.le_refl _)
  unfold onX offX; omega
end Zm
set_option linter.all false
set_option autoImplicit false
/-! MV2: two rows read from the end; what is as before is so from the end. -/
namespace Mv
end Mv
set_option linter.all false
set_option autoImplicit false
set_option maxRecDepth 100000
/-! GV: the law's own greatest worths, in a dict. -/
namespace Zm
open PySem Lpp Mv
/-! ### dicts as rows of pairs -/
section
variable {κ β : Type} [DecidableEq κ]
/-- a row of pairs by numbers -/
def asc (key : Nat → κ) (n : Nat) (g : Nat → β) : List (κ × β) := (List.range n).map fun j => (key j, g j)
@[simp] theorem asc_len {key : Nat → κ} {n : Nat} {g : Nat → β} : (asc key n g).length = n := by simp [asc]
theorem asc_succ {key : Nat → κ} {n : Nat} {g : Nat → β} : asc key (n + 1) g = asc key n g ++ [(key n, g n)] := by simp [asc, List.range_succ]
end
/-! ### a line's going through a row -/
/-! ### two rows -/
/-! ### as those next to one another leave -/
end Zm
set_option linter.all false
set_option autoImplicit false
set_option maxRecDepth 100000
/-! GX: halls of the third kind of draws; how many minutes may be moved at the most. -/
namespace Zm
open PySem Lpp Mv
--@ minutes and halls of the third kind of draws
theorem minutes_gets {n : Nat} {lot : Int} (h0 : 0 ≤ lot) (h5 : lot < 5) : Gets Well n 3 (g__law_minutes n lot) (fun x => 0 ≤ x ∧ x < 10 ^ 14) := by
  unfold g__law_minutes
  refine gets_fn (gb_eb (k := 0) (P1 := fun x => 0 ≤ x ∧ x ≤ 10 ^ 14) (gets_bd (k := 0) (P := fun l : List Int => l.length = 5 ∧ ∀ x ∈ l, 0 ≤ x ∧ x ≤ 10 ^ 14) (gets_bdE (powC (k := 14) (by decide)) (gets_pr ⟨rfl, by simp⟩)) fun l hl => ix_gets h0 (by omega) hl.2) fun most hm => ?_)
  refine gb_sq (k := 1) (P1 := fun x => 0 < x ∧ x ≤ 10 ^ 14) (gb_if (fun c => ?_) fun c => gb_nx ⟨by simp at c; omega, hm.2⟩) fun most hm => ?_
  · exact gb_eb (k := 1) (P1 := fun x => 0 < x ∧ x ≤ 10 ^ 14) (gets_bd (k := 0) (P := fun l : List Int => l.length = 5 ∧ ∀ x ∈ l, 0 < x ∧ x ≤ 10 ^ 14) (gets_bdE (powC (k := 14) (by decide)) (gets_pr ⟨rfl, by simp⟩)) fun l hl => gets_bd (draw_gets (by decide) (by decide)) fun z hz => ix_gets hz.1 (by omega) hl.2) fun x hx => gb_nx hx
  · refine gb_eb (k := 2) (P1 := fun x => 0 ≤ x ∧ x < 10 ^ 14) (gets_bd (draw_gets (by omega) (by omega)) fun x hx => gets_bd (k := 1) (P := fun y => y = 0 ∨ y = 1) (gets_bd (draw_gets (by decide) (by decide)) fun y hy => gets_pr (by omega)) fun y hy => ?_) fun x hx => gb_rt hx
    rcases hy with rfl | rfl
    · exact gets_eq (fun s => mul_ok (by omega) (by omega) (by decide) (by decide)) (by omega)
    · exact gets_eq (fun s => mul_ok (by omega) (by omega) (by decide) (by decide)) (by omega)
theorem row_gets {n : Nat} {lot b : Int} (h0 : 0 ≤ lot) (h5 : lot < 5) (hb : 0 ≤ b) (hb8 : b ≤ 8) : Gets Well n 24 (bd (rangeT b) fun z => mapG z (fun k => (g__law_minutes n lot))) (fun r => r.length = b.toNat ∧ Nn r ∧ ∀ x ∈ r, x < 10 ^ 14) :=
  gets_bdE (fun s => range_int (by omega) (by omega)) ((gets_mapG (k' := 24) 3 8 (by simp; omega) (by decide) fun x hx => minutes_gets h0 h5).mono (Nat.le_refl _) fun ys ⟨y1, y2⟩ => ⟨by simpa using y1, fun x hx => (y2 x hx).1, fun x hx => (y2 x hx).2⟩)
theorem hall3_gets {n : Nat} {a b : Int} {few : Bool} (ha : 1 ≤ a) (ha8 : a ≤ 8) (hb : 1 ≤ b) (hb8 : b ≤ 8) : Gets Well n 300 (g__law_hall_9811 n a b few) (fun h => ∃ m, HallOK h m ∧ h.length ≤ a.toNat ∧ Low (10 ^ 14) h) := by
  unfold g__law_hall_9811
  refine gets_fn (gb_eb (k := 2) (P1 := fun v : Int × Int => 1 ≤ v.1 ∧ v.1 ≤ a ∧ 1 ≤ v.2 ∧ v.2 ≤ b) (gets_bd (oneD_gets (by omega) (by omega)) fun x hx => gets_bd (oneD_gets (by omega) (by omega)) fun y hy => gets_pr ⟨hx.1, hx.2, hy.1, hy.2⟩) fun v hv => ?_)
  refine gb_eb (draw_gets (by split <;> decide) (by split <;> decide)) fun lot hl => ?_
  have hl5 : lot < 5 := by have := hl.2; split at this <;> omega
  refine gb_eb (k := 200) (P1 := fun h => HallOK h v.2.toNat ∧ h.length ≤ a.toNat ∧ Low (10 ^ 14) h) (gets_bd (k := 200) (P := fun h : List (List Int) => h.length = v.1.toNat ∧ ∀ r ∈ h, r.length = v.2.toNat ∧ Nn r ∧ ∀ x ∈ r, x < 10 ^ 14) (gets_bdE (fun s => range_int (by omega) (by omega)) ((gets_mapG (k' := 200) 24 8 (by simp; omega) (by decide) fun x hx => gets_bd (row_gets hl.1 hl5 (by omega) (by omega)) fun r hr => gets_pr hr).mono (Nat.le_refl _) fun ys ⟨y1, y2⟩ => ⟨by simpa using y1, y2⟩)) fun h hh => gets_pr ⟨⟨by omega, by omega, by omega, by omega, fun r hr => ⟨(hh.2 r hr).1, (hh.2 r hr).2.1⟩⟩, by omega, fun r hr => (hh.2 r hr).2.2⟩) fun h hh => gb_rt ⟨_, hh⟩
end Zm
set_option linter.all false
set_option autoImplicit false
set_option maxRecDepth 100000
/-! GN: what is moved, further facts: rows, totals, moved again, read from the end. -/
namespace Zm
open PySem Lpp Mv
theorem ps_plus {a b : Nat → Int} : ∀ {k : Nat}, ps (fun c => a c + b c) k = ps a k + ps b k
  | 0 => rfl
  | k + 1 => by simp only [ps, ps_plus (k := k)]; omega
theorem hall_rows {h : List (List Int)} {m : Nat} (H : HallOK h m) : ∀ r ∈ h, r.length = m := fun r hr => (H.row r hr).1
section
variable {P S : List (List Int)} {r1 r2 : List Int}
end
section
variable {h : List (List Int)} {m i : Nat} (H : HallOK h m) (hi : i + 1 < h.length) {T : Int}
include H hi
variable (h1 : ps (rf h i) m + ps (rf h (i + 1)) m - gw (rf h i) (rf h (i + 1)) m ≤ T) (h2 : T ≤ gw (rf h i) (rf h (i + 1)) m)
include h1 h2
theorem new_split : newH h i m T = h.take i ++ [lst (fa (rec2 h i m T)) m, lst (fb (rec2 h i m T)) m] ++ h.drop (i + 2) := by
  have := new_rows H hi h1 h2
  unfold newH
  rw [this.1, this.2]
end
/-! ### read from the end -/
section
variable {h : List (List Int)} {m i : Nat} (H : HallOK h m) (hi : i + 1 < h.length)
include H hi
end
end Zm
set_option linter.all false
set_option autoImplicit false
set_option maxRecDepth 100000
/-! GY: one minute moved. -/
namespace Zm
open PySem Lpp Mv
theorem lead_congr {a b a' b' : Nat → Int} {m c : Nat} (h : ∀ c, c < m → a c = a' c ∧ b c = b' c) (hc : c < m) : lead a b c = lead a' b' c := by
  unfold lead
  rw [ps_congr fun d hd => (h d (by omega)).1, ps_congr fun d hd => (h d (by omega)).2]
theorem first_congr {a b a' b' : Nat → Int} {m k : Nat} (h : ∀ c, c < m → a c = a' c ∧ b c = b' c) (f : First a b m k) : First a' b' m k := by
  have hk := f.lt
  refine ⟨hk, fun c hc => ?_, fun c hc => ?_⟩
  · rw [← lead_congr h hc, ← lead_congr h hk]; exact f.ge c hc
  · rw [← lead_congr h (by omega), ← lead_congr h hk]; exact f.first c hc
theorem first_uniq {a b : Nat → Int} {m k k' : Nat} (f : First a b m k) (g : First a b m k') : k = k' := by
  rcases Nat.lt_trichotomy k k' with h | h | h
  · have := g.first k h; have := f.ge k' g.lt; omega
  · exact h
  · have := f.first k' h; have := g.ge k f.lt; omega
structure Last (a b : Nat → Int) (m k : Nat) : Prop where
  lt : k < m
  ge : ∀ c, c < m → lead a b c ≤ lead a b k
  last : ∀ c, k < c → c < m → lead a b c < lead a b k
/-- where one has come from, there one goes back -/
theorem last_of_first {a b : Nat → Int} {m k : Nat} (f : First (fun c => if c = k then a c + 1 else a c) (fun c => if c = k then b c - 1 else b c) m k) : Last a b m k := by
  have hk := f.lt
  have l : ∀ c, lead (fun c => if c = k then a c + 1 else a c) (fun c => if c = k then b c - 1 else b c) c = lead a b c + (if k < c + 1 then 1 else 0) + (if k < c then 1 else 0) := fun c => by
    have p1 : ∀ j, ps (fun c => if c = k then a c + 1 else a c) j = ps a j + (if k < j then 1 else 0) := fun j => by
      induction j with
      | zero => simp [ps]
      | succ j ih =>
        simp only [ps, ih]
        by_cases e : j = k
        · subst e; simp; omega
        · rw [if_neg e]; split <;> split <;> omega
    have p2 : ∀ j, ps (fun c => if c = k then b c - 1 else b c) j = ps b j - (if k < j then 1 else 0) := fun j => by
      induction j with
      | zero => simp [ps]
      | succ j ih =>
        simp only [ps, ih]
        by_cases e : j = k
        · subst e; simp; omega
        · rw [if_neg e]; split <;> split <;> omega
    unfold lead
    rw [p1, p2]; omega
  have lk := l k
  rw [if_pos (by omega), if_neg (by omega)] at lk
  refine ⟨hk, fun c hc => ?_, fun c h1 h2 => ?_⟩
  · have lc := l c
    rcases Nat.lt_trichotomy c k with h | h | h
    · have := f.first c h
      rw [if_neg (by omega), if_neg (by omega)] at lc; omega
    · subst h; exact Int.le_refl _
    · have := f.ge c hc
      rw [if_pos (by omega), if_pos (by omega)] at lc; omega
  · have lc := l c
    have := f.ge c h2
    rw [if_pos (by omega), if_pos (by omega)] at lc; omega
/-! ### places in a row -/
theorem idxOf_first {x : Int} : ∀ {xs : List Int} {k : Nat}, xs[k]? = some x → (∀ c, c < k → xs[c]? ≠ some x) → idxOf x xs = some k
  | [], k, h, _ => by simp at h
  | y :: xs, 0, h, _ => by simp at h; simp [idxOf, h]
  | y :: xs, k + 1, h, n => by
    have h0 : y ≠ x := by simpa using n 0 (by omega)
    rw [idxOf, if_neg h0, idxOf_first (k := k) (by simpa using h) fun c hc => by simpa using n (c + 1) (by omega)]; rfl
/-! ### one minute at k -/
def putF (f : Nat → Int) (k : Nat) (d : Int) : Nat → Int := fun c => if c = k then f c + d else f c
def putH (h : List (List Int)) (i m k : Nat) (d : Int) : List (List Int) := h.take i ++ [lst (putF (rf h i) k (-d)) m, lst (putF (rf h (i + 1)) k d) m] ++ h.drop (i + 2)
theorem lst_set {f : Nat → Int} {m k : Nat} {d : Int} (hk : k < m) : (lst f m).set k (f k + d) = lst (putF f k d) m := by
  refine lst_eq (by simp) fun c hc => ?_
  unfold putF
  by_cases e : c = k
  · subst e; rw [List.getElem?_set_self (by simpa using hk), if_pos rfl]
  · rw [List.getElem?_set_ne (fun z => e z.symm), lst_get hc, if_neg e]
section
variable {h : List (List Int)} {m i : Nat} (H : HallOK h m) (hi : i + 1 < h.length)
include H hi
theorem at_row {j : Nat} (hj : j < h.length) : h[j]? = some (lst (rf h j) m) := by
  obtain ⟨r, e, l, v⟩ := row_get (hall_rows H) hj
  rw [e, lst_eq l v]
theorem put_new {k : Nat} {T : Int} {d : Int} (h1 : ps (rf h i) m + ps (rf h (i + 1)) m - gw (rf h i) (rf h (i + 1)) m ≤ T) (h2 : T ≤ gw (rf h i) (rf h (i + 1)) m)
    (e : ∀ c, c < m → fa (rec2 h i m T) c = putF (rf h i) k (-d) c ∧ fb (rec2 h i m T) c = putF (rf h (i + 1)) k d c) : putH h i m k d = newH h i m T := by
  rw [new_split H hi h1 h2]
  unfold putH
  rw [lst_eq (r := lst (fa (rec2 h i m T)) m) lst_len fun c hc => by rw [lst_get hc, (e c hc).1], lst_eq (r := lst (fb (rec2 h i m T)) m) lst_len fun c hc => by rw [lst_get hc, (e c hc).2]]
theorem on_new {k : Nat} (f : First (rf h i) (rf h (i + 1)) m k) (hx : 0 < onX h i m) : putH h i m k 1 = newH h i m (ps (rf h i) m - 1) := by
  have m1 := H.m1
  have ha : ∀ c, c < m → 0 ≤ rf h i c := fun c hc => rf_nn H (by omega) hc
  have hb : ∀ c, c < m → 0 ≤ rf h (i + 1) c := fun c hc => rf_nn H hi hc
  have ho : onX h i m = gw (rf h i) (rf h (i + 1)) m - ps (rf h (i + 1)) m := rfl
  have hof : offX h i m = gw (rf h i) (rf h (i + 1)) m - ps (rf h i) m := rfl
  have nn := onX_nn H hi
  have eb : ps (fun c => rf h i c + rf h (i + 1) c) m = ps (rf h i) m + ps (rf h (i + 1)) m := ps_plus
  obtain ⟨k', f', e'⟩ := recon_step (by omega) (lace_of ha hb) (T := ps (rf h i) m) (by rw [eb]; omega) (by omega)
  have one := recon_one (a := rf h i) (b := rf h (i + 1)) m (gw (rf h i) (rf h (i + 1))) (fun c => rf h i c + rf h (i + 1) c) (fun _ _ => rfl) fun _ _ => rfl
  have := first_uniq (first_congr one f') f
  subst this
  refine put_new H hi (by omega) (by omega) fun c hc => ?_
  have := e' c hc
  refine ⟨this.1.trans ?_, this.2.trans ?_⟩
  · unfold mva putF; rw [(one c hc).1]; split <;> omega
  · unfold mvb putF; rw [(one c hc).2]
theorem off_new (hx : 0 < offX h i m) : ∃ k, Last (rf h i) (rf h (i + 1)) m k ∧ 1 ≤ rf h (i + 1) k ∧ putH h i m k (-1) = newH h i m (ps (rf h i) m + 1) := by
  have m1 := H.m1
  have ha : ∀ c, c < m → 0 ≤ rf h i c := fun c hc => rf_nn H (by omega) hc
  have hb : ∀ c, c < m → 0 ≤ rf h (i + 1) c := fun c hc => rf_nn H hi hc
  have ho : onX h i m = gw (rf h i) (rf h (i + 1)) m - ps (rf h (i + 1)) m := rfl
  have hof : offX h i m = gw (rf h i) (rf h (i + 1)) m - ps (rf h i) m := rfl
  have nn := onX_nn H hi
  have eb : ps (fun c => rf h i c + rf h (i + 1) c) m = ps (rf h i) m + ps (rf h (i + 1)) m := ps_plus
  obtain ⟨k, f', e'⟩ := recon_step (by omega) (lace_of ha hb) (T := ps (rf h i) m + 1) (by rw [eb]; omega) (by omega)
  have one := recon_one (a := rf h i) (b := rf h (i + 1)) m (gw (rf h i) (rf h (i + 1))) (fun c => rf h i c + rf h (i + 1) c) (fun _ _ => rfl) fun _ _ => rfl
  rw [show ps (rf h i) m + 1 - 1 = ps (rf h i) m by omega] at e'
  obtain ⟨_, r1, _, _, _⟩ := rec2_ok H hi (T := ps (rf h i) m + 1) (by omega) (by omega)
  have key : ∀ c, c < m → fa (rec2 h i m (ps (rf h i) m + 1)) c = (if c = k then rf h i c + 1 else rf h i c) ∧ fb (rec2 h i m (ps (rf h i) m + 1)) c = (if c = k then rf h (i + 1) c - 1 else rf h (i + 1) c) := fun c hc => by
    have e1 := e' c hc
    rw [(one c hc).1, (one c hc).2] at e1
    unfold mva mvb at e1
    unfold rec2
    by_cases z : c = k
    · rw [if_pos z] at e1 ⊢; rw [if_pos z] at e1 ⊢; omega
    · rw [if_neg z] at e1 ⊢; rw [if_neg z] at e1 ⊢; omega
  have hk := f'.lt
  refine ⟨k, last_of_first (first_congr key f'), ?_, put_new H hi (by omega) (by omega) fun c hc => ?_⟩
  · have := (r1 k hk).2.1
    rw [(key k hk).2, if_pos rfl] at this
    omega
  · rw [(key c hc).1, (key c hc).2]
    unfold putF
    refine ⟨by split <;> omega, by split <;> omega⟩
end
end Zm
set_option linter.all false
set_option autoImplicit false
set_option maxRecDepth 100000
/-! AL: what is alike: a thing and itself. -/
namespace Zm
open PySem
mutual
/-- ints, none, tuples and lists of such, n deep at the most -/
def okA : Nat → D → Bool
  | _, .int _ => true
  | _, .non => true
  | _, .bl _ => true
  | n + 1, .tup ds => decide (ds.length ≤ 1000) && okAs n ds
  | n + 1, .lst o ds => !o && decide (ds.length ≤ 1000) && okAs n ds
  | _, _ => false
def okAs : Nat → List D → Bool
  | _, [] => true
  | n, d :: ds => okA n d && okAs n ds
end
mutual
theorem okA_fz : ∀ {n : Nat} {d : D}, okA n d = true → fz d = d
  | _, .int _, _ => rfl
  | _, .non, _ => rfl
  | _, .bl _, _ => rfl
  | n + 1, .tup ds, h => by
    simp only [okA, Bool.and_eq_true] at h
    simp [okAs_fz h.2]
  | n + 1, .lst o ds, h => by
    simp only [okA, Bool.and_eq_true] at h
    simp [okAs_fz h.2]
    simpa using h.1.1
  | 0, .tup _, h => by simp [okA] at h
  | 0, .lst _ _, h => by simp [okA] at h
  | _, .str _, h => by simp [okA] at h
  | _, .dic _ _ _ _, h => by simp [okA] at h
  | _, .box _, h => by simp [okA] at h
  | _, .fn _, h => by simp [okA] at h
  | _, .ty _, h => by simp [okA] at h
  | _, .ro _, h => by simp [okA] at h
  | _, .exc _ _, h => by simp [okA] at h
theorem okAs_fz : ∀ {n : Nat} {ds : List D}, okAs n ds = true → fzs ds = ds
  | _, [], _ => rfl
  | n, d :: ds, h => by
    simp only [okAs, Bool.and_eq_true] at h
    simp [okA_fz h.1, okAs_fz h.2]
end
end Zm
set_option linter.all false
set_option autoImplicit false
set_option maxRecDepth 100000
namespace Zm
open PySem
end Zm
namespace Zm
open PySem
end Zm
namespace Zm
open PySem
end Zm
set_option linter.all false
set_option autoImplicit false
set_option maxRecDepth 100000
/-! GZ: one minute moved, typed. -/
namespace Zm
open PySem Lpp Mv
theorem aug_ok {τ ρ : Type} {f : Int → Int → Int} {xs : List Int} {k : Nat} {x y : Int} {q : List Int → B τ ρ} {s : Sto} (h : xs[k]? = some x) : augB f xs (k : Int) y q s = q (xs.set k (f x y)) s := by
  unfold augB
  rw [if_pos (by omega)]
  simp only [Int.toNat_natCast, h]
theorem idx_ok {xs : List Int} {x : Int} {k : Nat} {s : Sto} (h : xs[k]? = some x) (n : ∀ c, c < k → xs[c]? ≠ some x) : idxT xs x s = .ok (k : Int) s := by
  unfold idxT; rw [idxOf_first h n]; rfl
/-- what one move leaves -/
def mv1 (h : List (List Int)) (i m : Nat) : Option (List (List Int)) := if onX h i m = 0 then none else some (newH h i m (ps (rf h i) m - 1))
def bk1 (h : List (List Int)) (i m : Nat) : Option (List (List Int)) := if offX h i m = 0 then none else some (newH h i m (ps (rf h i) m + 1))
section
variable {h : List (List Int)} {m i : Nat} (H : HallOK h m) (hi : i + 1 < h.length)
include H hi
theorem put_rows {x y : List Int} (s : Sto) : bd (catT (cutD h none (some (i : Int))) [x, y]) (fun y13 => (catT y13 (cutD h (some ((i : Int) + (2 : Int))) none))) s = .ok (h.take i ++ [x, y] ++ h.drop (i + 2)) s := by
  have l8 := H.l8
  rw [cut_to, bd_ok (cat_ok (by simp; omega)), show ((i : Int) + 2) = ((i + 2 : Nat) : Int) by omega, cut_from]
  exact cat_ok (by simp; omega)
theorem with_rows_T {x y : List Int} (s : Sto) : g_with_rows h (i : Int) x y s = .ok (h.take i ++ [x, y] ++ h.drop (i + 2)) s := by
  unfold g_with_rows
  exact fnT_rt (by rw [eb_ok (put_rows H hi s)]; rfl)
theorem with_minute_T {k : Nat} (hk : k < m) (d : Int) (s : Sto) : g_with_minute h (i : Int) (k : Int) d s = .ok (putH h i m k d) s := by
  unfold g_with_minute
  refine fnT_rt ?_
  rw [eb_ok (x := lst (rf h i) m) (s' := s) (by rw [bd_ok (ix_get (at_row H hi (by omega)))]; rfl),
    eb_ok (x := lst (rf h (i + 1)) m) (s' := s) (by rw [show ((i : Int) + 1) = ((i + 1 : Nat) : Int) by omega, bd_ok (ix_get (at_row H hi hi))]; rfl),
    aug_ok (lst_get hk), aug_ok (lst_get hk), show rf h i k - d = rf h i k + (-d) by omega, lst_set hk, lst_set hk, eb_ok (with_rows_T H hi s)]
  rfl
theorem lead_max {k : Nat} (hk : k < m) (g : ∀ c, c < m → lead (rf h i) (rf h (i + 1)) c ≤ lead (rf h i) (rf h (i + 1)) k) (s : Sto) : maxT (lst (lead (rf h i) (rf h (i + 1))) m) s = .ok (lead (rf h i) (rf h (i + 1)) k) s := by
  refine max_is ⟨List.mem_of_getElem? (lst_get hk), fun y hy => ?_⟩
  obtain ⟨c, hc, rfl⟩ := List.getElem_of_mem hy
  have hc' : c < m := by simpa using hc
  have : (lst (lead (rf h i) (rf h (i + 1))) m)[c] = lead (rf h i) (rf h (i + 1)) c := by
    have := lst_get (f := lead (rf h i) (rf h (i + 1))) hc'
    rw [List.getElem?_eq_getElem hc] at this; exact Option.some.inj this
  rw [this]; exact g c hc'
theorem lead_on {k : Nat} (f : First (rf h i) (rf h (i + 1)) m k) : lead (rf h i) (rf h (i + 1)) k = onX h i m := by
  have m1 := H.m1
  have := gw_lead (rf_nn H (by omega) (by omega)) f
  show _ = gw _ _ _ - _
  omega
theorem moved_on_T (s : Sto) : g_moved_on h (i : Int) s = .ok (mv1 h i m) s := by
  have m1 := H.m1
  obtain ⟨k, f⟩ := first_ex (rf h i) (rf h (i + 1)) m (by omega)
  have lo := lead_on H hi f
  unfold g_moved_on mv1
  refine fnT_rt ?_
  rw [eb_ok (leads_T H hi s), eb_ok (lead_max H hi f.lt f.ge s), lo]
  by_cases z : onX h i m = 0
  · rw [if_pos z, eb_ok (x := none) (s' := s) (by rw [if_pos (by simpa using z)]; rfl)]; rfl
  · rw [if_neg z, eb_ok (x := some (newH h i m (ps (rf h i) m - 1))) (s' := s) (by
      rw [if_neg (by simpa using z), bd_ok (a := newH h i m (ps (rf h i) m - 1)) (s' := s) (by
        rw [bd_ok (idx_ok (k := k) (by rw [lst_get f.lt, lo]) fun c hc e => by
          rw [lst_get (by have := f.lt; omega)] at e
          have := f.first c hc
          have := Option.some.inj e
          omega), with_minute_T H hi f.lt, on_new H hi f (by have := (onX_nn H hi).1; omega)])]
      rfl)]
    rfl
theorem moved_back_T (s : Sto) : g_moved_back h (i : Int) s = .ok (bk1 h i m) s := by
  have m1 := H.m1
  have m8 := H.m8
  unfold g_moved_back bk1
  refine fnT_rt ?_
  have e0 : bd (bd (g_can_move_by h (i : Int)) fun y3 => (pr y3.2)) (fun y5 => (pr (decide (y5 = (0 : Int))))) s = .ok (decide (offX h i m = 0)) s := by
    rw [bd_ok (a := offX h i m) (s' := s) (by rw [bd_ok (can_move_by_T H hi s)]; rfl)]; rfl
  by_cases z : offX h i m = 0
  · rw [if_pos z, ifB_ok e0, if_pos (by simpa using z)]; rfl
  · rw [if_neg z, ifB_ok e0, if_neg (by simpa using z), eb_ok (leads_T H hi s)]
    obtain ⟨k, l, _, e⟩ := off_new H hi (by have := (onX_nn H hi).2; omega)
    have hk := l.lt
    rw [eb_ok (x := (k : Int)) (s' := s) (by
      rw [bd_ok (a := ((m - 1 - k : Nat) : Int)) (s' := s) (by
        show bd (maxT _) _ s = _
        rw [bd_ok (lead_max H hi hk l.ge s)]
        refine idx_ok ?_ fun c hc e => ?_
        · rw [List.getElem?_reverse (by simp; omega), lst_len, show m - 1 - (m - 1 - k) = k by omega, lst_get hk]
        · rw [List.getElem?_reverse (by simp; omega), lst_len, lst_get (by omega)] at e
          have := l.last (m - 1 - c) (by omega) (by omega)
          have := Option.some.inj e
          omega)]
      show R.ok _ s = R.ok _ s
      congr 1
      rw [lst_len]; omega), eb_ok (x := some (newH h i m (ps (rf h i) m + 1))) (s' := s) (by
      rw [bd_ok (a := newH h i m (ps (rf h i) m + 1)) (s' := s) (by rw [with_minute_T H hi hk, e])]; rfl)]
    rfl
theorem move_T (s : Sto) : g_move h (i : Int) s = .ok (mv1 h i m) s := by
  unfold g_move
  exact fnT_rt (by rw [eb_ok (need_both_T H hi s), eb_ok (moved_on_T H hi s)]; rfl)
theorem back_T (s : Sto) : g_back h (i : Int) s = .ok (bk1 h i m) s := by
  unfold g_back
  exact fnT_rt (by rw [eb_ok (need_both_T H hi s), eb_ok (moved_back_T H hi s)]; rfl)
end
end Zm
set_option linter.all false
set_option autoImplicit false
set_option maxRecDepth 100000
set_option maxHeartbeats 2000000
/-! R17a: the doors of moves, and what is said there. -/
namespace Zm
open PySem Lpp
/-- no counter with one behind it -/
def BadNb (h : List (List Int)) (d : D) : Prop := NoAm d ∨ ∃ i : Int, d = .int i ∧ (h.length : Int) - 1 ≤ i
def NoWh (d : D) : Prop := ∀ s, f_is_whole [d] s = .ok (.bl false) s
section
variable {h : List (List Int)} {m : Nat} {d d2 d3 d4 : D}
theorem nnb_ok {i : Nat} (hi : i + 1 < h.length) (s : Sto) : f_need_neighboursx [hallD h, .int (i : Nat)] s = .ok .non s := by
  have g1 : gLen s [hallD h] = some (.int (h.length : Nat)) := by simp [hallD]
  have g2 : gGe s [.int (i : Nat), .int ((h.length : Nat) - 1)] = some (.bl false) := by simp; omega
  refine mkFn_nx (σ := [some (hallD h), some (.int (i : Nat))]) rfl ?_
  simp [-gLen, -gGe, amount_int, g1, g2]
theorem nnb_ex (fd : fz d = d) (B : BadNb h d) (s : Sto) : f_need_neighboursx [hallD h, d] s = .ex ("NoCounter", none) s := by
  have g1 : gLen s [hallD h] = some (.int (h.length : Nat)) := by simp [hallD]
  unfold f_need_neighboursx
  rcases B with ha | ⟨i, rfl, hi⟩
  · simp [-gLen, -gGe, mkFn, fd, ha s, mRaise]
  · by_cases z : 0 ≤ i
    · have g2 : gGe s [.int i, .int ((h.length : Nat) - 1)] = some (.bl true) := by simp; omega
      simp [-gLen, -gGe, mkFn, amount_int, decide_eq_true z, mRaise, g1, g2]
    · simp [-gLen, -gGe, mkFn, amount_int, decide_eq_false z, mRaise]
theorem nbx_ok {i : Nat} (H : HallOK h m) (hi : i + 1 < h.length) (s : Sto) : f_need_bothx [hallD h, .int (i : Nat)] s = .ok .non s := by
  refine mkFn_nx (σ := [some (hallD h), some (.int (i : Nat))]) rfl ?_
  simp [mSeq, needH_ok H s, nnb_ok hi s]
theorem nbx_h (f2 : fz d2 = d2) (N : NoHa d2) (s : Sto) : f_need_bothx [d2, d3] s = .ex ("NoHall", none) s :=
  ex1 rfl (do_ex (by simp [f2, needH_ex f2 N s]))
theorem nbx_c (H : HallOK h m) (f3 : fz d3 = d3) (B : BadNb h d3) (s : Sto) : f_need_bothx [hallD h, d3] s = .ex ("NoCounter", none) s :=
  fn_ex rfl (by rw [seq_nx (do_ok (d := .non) (by simp [needH_ok H s])), do_ex (x := ("NoCounter", none)) (by simp [f3, nnb_ex f3 B s])])
theorem pnb_ok {i : Nat} (H : HallOK h m) (hi : i + 1 < h.length) (s : Sto) : f_need_both [hallD h, .int (i : Nat)] s = .ok .non s := by
  have g1 : gLen s [hallD h] = some (.int (h.length : Nat)) := by simp [hallD]
  have g2 : gGe s [.int (i : Nat), .int ((h.length : Nat) - 1)] = some (.bl false) := by simp; omega
  have p2 : f_need_neighbours [hallD h, .int (i : Nat)] s = .ok .non s := by
    refine mkFn_nx (σ := [some (hallD h), some (.int (i : Nat))]) rfl ?_
    simp [-gLen, -gGe, amount_int, g1, g2]
  refine mkFn_nx (σ := [some (hallD h), some (.int (i : Nat))]) rfl ?_
  simp [mSeq, need_ok H s, p2]
/-! the doors -/
theorem mvx_ok {i : Nat} (H : HallOK h m) (hi : i + 1 < h.length) (s : Sto) : ∃ d, f_movex [hallD h, .int (i : Nat)] s = .ok d s := by
  have a := tf_move (rp_hall h) (rp_in (i : Nat)) s
  rw [move_T H hi] at a
  obtain ⟨d, e1, _⟩ := a
  refine ⟨d, Eq.trans (b := f_move [hallD h, .int (i : Nat)] s) (fn_same ?_) e1⟩
  rw [seq_nx (do_ok (d := .non) (by simp [nbx_ok H hi s])), seq_nx (a := mDo (mCall f_need_both _)) (do_ok (d := .non) (by simp [pnb_ok H hi s]))]
theorem bkx_ok {i : Nat} (H : HallOK h m) (hi : i + 1 < h.length) (s : Sto) : ∃ d, f_backx [hallD h, .int (i : Nat)] s = .ok d s := by
  have a := tf_back (rp_hall h) (rp_in (i : Nat)) s
  rw [back_T H hi] at a
  obtain ⟨d, e1, _⟩ := a
  refine ⟨d, Eq.trans (b := f_back [hallD h, .int (i : Nat)] s) (fn_same ?_) e1⟩
  rw [seq_nx (do_ok (d := .non) (by simp [nbx_ok H hi s])), seq_nx (a := mDo (mCall f_need_both _)) (do_ok (d := .non) (by simp [pnb_ok H hi s]))]
theorem cmx_ok {i : Nat} (H : HallOK h m) (hi : i + 1 < h.length) (s : Sto) : ∃ d, f_can_movex [hallD h, .int (i : Nat)] s = .ok d s := by
  have a := tf_can_move (rp_hall h) (rp_in (i : Nat)) s
  rw [can_move_T H hi] at a
  obtain ⟨d, e1, _⟩ := a
  refine ⟨d, Eq.trans (b := f_can_move [hallD h, .int (i : Nat)] s) (fn_same ?_) e1⟩
  rw [seq_nx (do_ok (d := .non) (by simp [nbx_ok H hi s])), seq_nx (a := mDo (mCall f_need_both _)) (do_ok (d := .non) (by simp [pnb_ok H hi s]))]
theorem mdx_ok {i : Nat} {n : Int} (H : HallOK h m) (hi : i + 1 < h.length) (s : Sto) : ∃ d, f_movedx [hallD h, .int (i : Nat), .int n] s = .ok d s := by
  have a := tf_moved (rp_hall h) (rp_in (i : Nat)) (rp_in n) s
  rw [moved_T H hi] at a
  obtain ⟨d, e1, _⟩ := a
  refine ⟨d, Eq.trans (b := f_moved [hallD h, .int (i : Nat), .int n] s) (fn_same ?_) e1⟩
  have w : ∀ b : MS, mIf (tNot (tV (mCall f_is_whole [mVar 2]))) b mNil [some (hallD h), some (.int (i : Nat)), some (.int n)] s = .nx [some (hallD h), some (.int (i : Nat)), some (.int n)] s := fun b => by simp [whole_int n s]
  show mSeq (mDo (mCall f_need_bothx [mVar 0, mVar 1])) (mSeq (mIf (tNot (tV (mCall f_is_whole [mVar 2]))) (mRaise "NoNumber") mNil) (mRet (mCall f_moved_by [mVar 0, mVar 1, mVar 2]))) [some (hallD h), some (.int (i : Nat)), some (.int n)] s = mSeq (mDo (mCall f_need_both [mVar 0, mVar 1])) (mSeq (mIf (tNot (tV (mCall f_is_whole [mVar 2]))) mBadS mNil) (mRet (mCall f_moved_by [mVar 0, mVar 1, mVar 2]))) [some (hallD h), some (.int (i : Nat)), some (.int n)] s
  rw [seq_nx (do_ok (d := .non) (by simp [nbx_ok H hi s])), seq_nx (a := mDo (mCall f_need_both _)) (do_ok (d := .non) (by simp [pnb_ok H hi s])), seq_nx (w _), seq_nx (w _)]
theorem mdx_n {i : Nat} (H : HallOK h m) (hi : i + 1 < h.length) (f4 : fz d4 = d4) (N : NoWh d4) (s : Sto) : f_movedx [hallD h, .int (i : Nat), d4] s = .ex ("NoNumber", none) s := by
  refine fn_ex rfl ?_
  show mSeq (mDo (mCall f_need_bothx [mVar 0, mVar 1])) (mSeq (mIf (tNot (tV (mCall f_is_whole [mVar 2]))) (mRaise "NoNumber") mNil) (mRet (mCall f_moved_by [mVar 0, mVar 1, mVar 2]))) [some (hallD h), some (.int (i : Nat)), some d4] s = .ex ("NoNumber", none) [some (hallD h), some (.int (i : Nat)), some d4] s
  rw [seq_nx (do_ok (d := .non) (by simp [nbx_ok H hi s])), seq_ex (x := ("NoNumber", none)) (by simp [f4, N s, mRaise])]
/-- any door: the needs fail -/
theorem any_ex {c : Str} (f2 : fz d2 = d2) (f3 : fz d3 = d3) (s : Sto) (E : f_need_bothx [d2, d3] s = .ex (c, none) s) : f_movex [d2, d3] s = .ex (c, none) s ∧ f_backx [d2, d3] s = .ex (c, none) s ∧ f_can_movex [d2, d3] s = .ex (c, none) s ∧ f_movedx [d2, d3, d4] s = .ex (c, none) s :=
  ⟨ex1 rfl (do_ex (by simp [f2, f3, E])), ex1 rfl (do_ex (by simp [f2, f3, E])), ex1 rfl (do_ex (by simp [f2, f3, E])), ex1 rfl (do_ex (by simp [f2, f3, E]))⟩
/-! what is said -/
def saidE (k : Int) (d2 d3 d4 : D) : Env := [some (.int k), some (.tup [d2, d3, d4]), some d2, some d3, some d4, some (.lst true []), none]
theorem said_s {k : Int} (f2 : fz d2 = d2) (f3 : fz d3 = d3) (f4 : fz d4 = d4) (s : Sto) {r : RS} (h : mTryF (["NoNumber", "NoHall", "NoCounter"] : List Str) 5 6 gx__law_words f__law_said_e0aax_y1 (saidE k d2 d3 d4) s = r) :
    f__law_said_e0aax [.int k, .tup [d2, d3, d4]] s = (match (r.then (mRetV 5)) with
    | .rt d s' => .ok d s'
    | .nx _ s' => .ok .non s'
    | .ex x _ s' => .ex x s'
    | _ => .bad) := by
  have e1 : mUnpD [false, true] (.t3 (.nm 2) (.nm 3) (.nm 4)) (mVar 1) [some (.int k), some (.tup [d2, d3, d4]), none, none, none, none, none] s = .nx [some (.int k), some (.tup [d2, d3, d4]), some d2, some d3, some d4, none, none] s := by
    simp [mUnpD, mUnp, f2, f3, f4, Tg.bind]
  have e2 : mSetD [] 5 (mOp gLst []) [some (.int k), some (.tup [d2, d3, d4]), some d2, some d3, some d4, none, none] s = .nx (saidE k d2 d3 d4) s := by
    rw [setD_ok (d := .lst true []) (s' := s) (by simp [gLst_ok]) rfl (by simp)]; rfl
  unfold f__law_said_e0aax mkFn
  rw [if_pos (by rfl)]
  have e0 : ([.int k, .tup [d2, d3, d4]] : List D).map some ++ List.replicate (7 - 2) none = [some (.int k), some (.tup [d2, d3, d4]), none, none, none, none, none] := rfl
  rw [e0]
  simp only [mSeq, e1, e2, RS.then_nx, h]
  all_goals (cases r.then (mRetV 5) <;> rfl)
theorem said_ok {k : Int} (f2 : fz d2 = d2) (f3 : fz d3 = d3) (f4 : fz d4 = d4) (s : Sto) (h : f__law_said_e0aax_y1 (saidE k d2 d3 d4) s = .nx (saidE k d2 d3 d4) s) :
    f__law_said_e0aax [.int k, .tup [d2, d3, d4]] s = .ok (.lst true []) s := by
  rw [said_s f2 f3 f4 s (r := .nx (saidE k d2 d3 d4) s) (by unfold mTryF; rw [h])]
  rfl
theorem said_ex {k : Int} {c : Str} (f2 : fz d2 = d2) (f3 : fz d3 = d3) (f4 : fz d4 = d4) (s : Sto) (hc : c ∈ (["NoNumber", "NoHall", "NoCounter"] : List Str)) (h : f__law_said_e0aax_y1 (saidE k d2 d3 d4) s = .ex (c, none) (saidE k d2 d3 d4) s) :
    f__law_said_e0aax [.int k, .tup [d2, d3, d4]] s = .ok (gx__law_words c) s := by
  rw [said_s f2 f3 f4 s (r := .nx ((((saidE k d2 d3 d4).set 6 none).set 5 (some (gx__law_words c))).set 6 none) s) (by
    unfold mTryF; rw [h]
    exact if_pos ⟨rfl, hc, by simp [saidE], by simp [saidE]⟩)]
  rfl
theorem nq1 : ¬("move" : Str) = "back" := by decide
theorem nq2 : ¬("move" : Str) = "can_move" := by decide
theorem nq3 : ¬("back" : Str) = "can_move" := by decide
theorem y_0 (f2 : fz d2 = d2) (f3 : fz d3 = d3) (s : Sto) : f__law_said_e0aax_y1 (saidE 0 d2 d3 d4) s = (f_movex [d2, d3] s).to (saidE 0 d2 d3 d4) fun _ s' => .nx (saidE 0 d2 d3 d4) s' := by
  simp [nq1, nq2, nq3, f__law_said_e0aax_y1, saidE, mCallE, ftLook, f2, f3, gLst_ok, gIx_l, L2.atI, L2.ixN]
theorem y_1 (f2 : fz d2 = d2) (f3 : fz d3 = d3) (s : Sto) : f__law_said_e0aax_y1 (saidE 1 d2 d3 d4) s = (f_backx [d2, d3] s).to (saidE 1 d2 d3 d4) fun _ s' => .nx (saidE 1 d2 d3 d4) s' := by
  simp [nq1, nq2, nq3, f__law_said_e0aax_y1, saidE, mCallE, ftLook, f2, f3, gLst_ok, gIx_l, L2.atI, L2.ixN]
theorem y_2 (f2 : fz d2 = d2) (f3 : fz d3 = d3) (s : Sto) : f__law_said_e0aax_y1 (saidE 2 d2 d3 d4) s = (f_can_movex [d2, d3] s).to (saidE 2 d2 d3 d4) fun _ s' => .nx (saidE 2 d2 d3 d4) s' := by
  simp [nq1, nq2, nq3, f__law_said_e0aax_y1, saidE, mCallE, ftLook, f2, f3, gLst_ok, gIx_l, L2.atI, L2.ixN]
theorem y_3 (f2 : fz d2 = d2) (f3 : fz d3 = d3) (f4 : fz d4 = d4) (s : Sto) : f__law_said_e0aax_y1 (saidE 3 d2 d3 d4) s = (f_movedx [d2, d3, d4] s).to (saidE 3 d2 d3 d4) fun _ s' => .nx (saidE 3 d2 d3 d4) s' := by
  simp [f__law_said_e0aax_y1, saidE, f2, f3, f4]
/-- the needs fail: the class is told at every door -/
theorem said_need {k : Nat} {c : Str} (hk : k < 4) (f2 : fz d2 = d2) (f3 : fz d3 = d3) (f4 : fz d4 = d4) (hc : c ∈ (["NoNumber", "NoHall", "NoCounter"] : List Str)) (s : Sto) (E : ∀ s, f_need_bothx [d2, d3] s = .ex (c, none) s) : f__law_said_e0aax [.int (k : Nat), .tup [d2, d3, d4]] s = .ok (gx__law_words c) s := by
  obtain ⟨a0, a1, a2, a3⟩ := any_ex (d4 := d4) f2 f3 s (E s)
  match k, hk with
  | 0, _ => exact said_ex f2 f3 f4 s hc ((y_0 f2 f3 s).trans (by rw [a0]; rfl))
  | 1, _ => exact said_ex f2 f3 f4 s hc ((y_1 f2 f3 s).trans (by rw [a1]; rfl))
  | 2, _ => exact said_ex f2 f3 f4 s hc ((y_2 f2 f3 s).trans (by rw [a2]; rfl))
  | 3, _ => exact said_ex f2 f3 f4 s hc ((y_3 f2 f3 f4 s).trans (by rw [a3]; rfl))
theorem said_num {i : Nat} (H : HallOK h m) (hi : i + 1 < h.length) (f4 : fz d4 = d4) (N : NoWh d4) (s : Sto) : f__law_said_e0aax [.int 3, .tup [hallD h, .int (i : Nat), d4]] s = .ok (gx__law_words "NoNumber") s :=
  said_ex (fz_hall h) rfl f4 s (by simp) ((y_3 (fz_hall h) rfl f4 s).trans (by rw [mdx_n H hi f4 N s]; rfl))
theorem said_good {k i : Nat} {n : Int} (hk : k < 4) (H : HallOK h m) (hi : i + 1 < h.length) (s : Sto) : f__law_said_e0aax [.int (k : Nat), .tup [hallD h, .int (i : Nat), .int n]] s = .ok (.lst true []) s := by
  have f2 := fz_hall h
  have f3 : fz (.int (i : Nat)) = .int (i : Nat) := rfl
  have f4 : fz (.int n) = .int n := rfl
  match k, hk with
  | 0, _ => obtain ⟨d, e⟩ := mvx_ok H hi s; exact said_ok f2 f3 f4 s ((y_0 f2 f3 s).trans (by rw [e]; rfl))
  | 1, _ => obtain ⟨d, e⟩ := bkx_ok H hi s; exact said_ok f2 f3 f4 s ((y_1 f2 f3 s).trans (by rw [e]; rfl))
  | 2, _ => obtain ⟨d, e⟩ := cmx_ok H hi s; exact said_ok f2 f3 f4 s ((y_2 f2 f3 s).trans (by rw [e]; rfl))
  | 3, _ => obtain ⟨d, e⟩ := mdx_ok (n := n) H hi s; exact said_ok f2 f3 f4 s ((y_3 f2 f3 f4 s).trans (by rw [e]; rfl))
end
end Zm
set_option linter.all false
set_option autoImplicit false
set_option maxRecDepth 100000
/-! GT: what repr tells. -/
namespace Zm
open PySem PySem.PyData
def sok (x : Str) : Prop := PyData.strOk x = true
theorem sok_app {x y : Str} (hx : sok x) (hy : sok y) : sok (x ++ y) := by
  unfold sok PyData.strOk at *
  rw [Str.cps_append]
  simp only [Array.all_append, Bool.and_eq_true]
  exact ⟨hx, hy⟩
theorem sok_of (s : String) : sok (Str.ofString s) := by
  unfold sok PyData.strOk
  rw [← Array.all_toList, PyProof.Rows.signs_ofString, List.all_eq_true]
  intro c hc
  obtain ⟨ch, _, rfl⟩ := List.mem_map.mp hc
  have h := ch.valid
  rw [decide_eq_true_eq]
  show ch.val.toNat < 0x110000
  rcases h with h | h
  · omega
  · exact h.2
theorem len_app (x y : Str) : (x ++ y).length = x.length + y.length := strLen_append x y
theorem join_len : ∀ (ts : List Str) (B : Nat), (∀ t ∈ ts, t.length ≤ B ∧ sok t) → (Str.join ", " ts).length ≤ ts.length * (B + 2) ∧ sok (Str.join ", " ts)
  | [], B, _ => ⟨by show (Str.ofString "").length ≤ _; rw [show (Str.ofString "").length = 0 by decide]; omega, sok_of ""⟩
  | [x], B, h => by
    have h0 := h x (by simp)
    exact ⟨by show x.length ≤ _; simp; omega, h0.2⟩
  | x :: y :: r, B, h => by
    have h0 := h x (by simp)
    obtain ⟨a, b⟩ := join_len (y :: r) B fun t ht => h t (by simp [ht])
    have e : Str.join ", " (x :: y :: r) = x ++ ", " ++ Str.join ", " (y :: r) := rfl
    rw [e]
    refine ⟨?_, sok_app (sok_app h0.2 (sok_of ", ")) b⟩
    rw [len_app, len_app]
    have e1 : ((", " : String) : Str).length = 2 := by decide
    rw [e1]
    have : (x :: y :: r).length * (B + 2) = (y :: r).length * (B + 2) + (B + 2) := by rw [List.length_cons, Nat.succ_mul]
    omega
theorem tup_len {ts : List Str} {B : Nat} (h : ∀ t ∈ ts, t.length ≤ B ∧ sok t) : (tupleText ts).length ≤ ts.length * (B + 2) + 3 ∧ sok (tupleText ts) := by
  obtain ⟨a, b⟩ := join_len ts B h
  unfold tupleText
  refine ⟨?_, sok_app (sok_app (sok_of "(") b) (by split; exact sok_of ",)"; exact sok_of ")")⟩
  rw [len_app, len_app]
  have e1 : (("(" : String) : Str).length = 1 := by decide
  have e2 : (((if (ts.length == 1) = true then ",)" else ")" : String)) : Str).length ≤ 2 := by split <;> decide
  rw [e1]; omega
/-- a thing whose text is not too long -/
def RO (d : D) (k B : Nat) : Prop := ∃ x, pd d = some x ∧ x.showable = true ∧ x.hasDict = false ∧ x.depth ≤ k ∧ x.shown.length ≤ B ∧ sok x.shown
theorem RO.mono {d : D} {k B k' B' : Nat} (h : RO d k B) (h1 : k ≤ k') (h2 : B ≤ B') : RO d k' B' := by
  obtain ⟨x, a, b, c, e, f, g⟩ := h
  exact ⟨x, a, b, c, by omega, by omega, g⟩
theorem ro_int {i : Int} (h0 : 0 ≤ i) (h : i < 10 ^ 40) : RO (.int i) 0 40 := by
  refine ⟨.int i, rfl, ?_, by simp [hasDict], by simp [depth], ?_, ?_⟩
  · unfold showable
    rw [decide_eq_true_eq]
    by_cases z : i.natAbs = 0
    · rw [z]; decide
    · refine (Nat.log2_lt z).mpr ?_
      have h1 : i.natAbs < 10 ^ 40 := by omega
      exact Nat.lt_of_lt_of_le h1 (Nat.le_trans (show (10 : Nat) ^ 40 ≤ 2 ^ 160 by decide) (Nat.pow_le_pow_right (by decide) (by decide)))
  · exact PyProof.Rows.toString_length_le h0 (by decide) h
  · exact sok_of _
theorem ro_all : ∀ {ds : List D} {k B : Nat}, (∀ d ∈ ds, RO d k B) → ∃ xs, pds ds = some xs ∧ xs.length = ds.length ∧ showableAll xs = true ∧ hasDictAll xs = false ∧ depthAll xs ≤ k ∧ ∀ t ∈ shownAll xs, t.length ≤ B ∧ sok t
  | [], k, B, _ => ⟨[], rfl, rfl, rfl, rfl, by simp [depthAll], by simp [shownAll]⟩
  | d :: ds, k, B, h => by
    obtain ⟨x, a, b, c, e, f, g⟩ := h d (by simp)
    obtain ⟨xs, a2, l2, b2, c2, e2, f2⟩ := ro_all (ds := ds) fun d hd => h d (by simp [hd])
    refine ⟨x :: xs, by unfold pds; rw [a, a2], by simp [l2], by simp [showableAll, b, b2], by simp [hasDictAll, c, c2], by simp only [depthAll]; omega, fun t ht => ?_⟩
    rw [shownAll, List.mem_cons] at ht
    rcases ht with rfl | ht
    · exact ⟨f, g⟩
    · exact f2 t ht
theorem ro_tup {ds : List D} {k B n : Nat} (h : ∀ d ∈ ds, RO d k B) (hn : ds.length ≤ n) : RO (.tup ds) (k + 1) (n * (B + 2) + 3) := by
  obtain ⟨xs, a, l, b, c, e, f⟩ := ro_all h
  have ls : (shownAll xs).length = xs.length := shownAll_length xs
  obtain ⟨g1, g2⟩ := tup_len f
  refine ⟨.tuple xs, by unfold pd; rw [a]; rfl, by simpa [showable] using b, by simpa [hasDict] using c, by simp only [depth]; omega, ?_, by unfold shown; exact g2⟩
  unfold shown
  have : (shownAll xs).length * (B + 2) ≤ n * (B + 2) := Nat.mul_le_mul_right _ (by omega)
  omega
theorem sh_str {z : Str} (h : sok z) : shapedD (.str z) = some (.str z) := by
  unfold shapedD
  simp only [pd]
  rw [if_pos]
  unfold SeqAt.shaped
  rw [show PyData.canLay0 (.str z) = true from h]
  simp [depth]
theorem ne_str {z : Str} (h : sok z) (s : Sto) : neX (eS.f z) (eS.f z) s = .ok false s := by
  unfold neX gNe
  rw [show eS.f z = .str z from rfl]
  simp only [sh_str h]
  unfold PyData.eqv
  simp
end Zm
set_option linter.all false
set_option autoImplicit false
set_option maxRecDepth 100000
/-! GTZ: what repr tells where empty dicts may stand. -/
namespace Zm
open PySem PySem.PyData
def ROz (d : D) (k B : Nat) : Prop := ∃ x, pz d = some x ∧ x.showable = true ∧ x.depth ≤ k ∧ x.shown.length ≤ B ∧ sok x.shown
theorem ROz.mono {d : D} {k B k' B' : Nat} (h : ROz d k B) (h1 : k ≤ k') (h2 : B ≤ B') : ROz d k' B' := by
  obtain ⟨x, a, b, e, f, g⟩ := h
  exact ⟨x, a, b, by omega, by omega, g⟩
theorem RO.z {d : D} {k B : Nat} (h : RO d k B) : ROz d k B := by
  obtain ⟨x, a, b, _, e, f, g⟩ := h
  exact ⟨x, pz_pd a, b, e, f, g⟩
theorem roz_all : ∀ {ds : List D} {k B : Nat}, (∀ d ∈ ds, ROz d k B) → ∃ xs, pzs ds = some xs ∧ xs.length = ds.length ∧ showableAll xs = true ∧ depthAll xs ≤ k ∧ ∀ t ∈ shownAll xs, t.length ≤ B ∧ sok t
  | [], k, B, _ => ⟨[], rfl, rfl, rfl, by simp [depthAll], by simp [shownAll]⟩
  | d :: ds, k, B, h => by
    obtain ⟨x, a, b, e, f, g⟩ := h d (by simp)
    obtain ⟨xs, a2, l2, b2, e2, f2⟩ := roz_all (ds := ds) fun d hd => h d (by simp [hd])
    refine ⟨x :: xs, by rw [pzs, a, a2], by simp [l2], by simp [showableAll, b, b2], by simp only [depthAll]; omega, fun t ht => ?_⟩
    rw [shownAll, List.mem_cons] at ht
    rcases ht with rfl | ht
    · exact ⟨f, g⟩
    · exact f2 t ht
theorem roz_tup {ds : List D} {k B n : Nat} (h : ∀ d ∈ ds, ROz d k B) (hn : ds.length ≤ n) : ROz (.tup ds) (k + 1) (n * (B + 2) + 3) := by
  obtain ⟨xs, a, l, b, e, f⟩ := roz_all h
  have ls : (shownAll xs).length = xs.length := shownAll_length xs
  obtain ⟨g1, g2⟩ := tup_len f
  refine ⟨.tuple xs, by rw [pz, a]; rfl, by simpa [showable] using b, by simp only [depth]; omega, ?_, by unfold shown; exact g2⟩
  unfold shown
  have : (shownAll xs).length * (B + 2) ≤ n * (B + 2) := Nat.mul_le_mul_right _ (by omega)
  omega
theorem reprZ_T {d : D} {k B : Nat} (h : ROz d k B) (hk : k ≤ 60) (hB : B ≤ 1000000) : ∃ z, sok z ∧ ∀ s, reprZ d s = .ok z s := by
  obtain ⟨x, a, b, e, f, g⟩ := h
  refine ⟨x.shown, g, fun s => ?_⟩
  unfold reprZ gReprZ
  simp only [a, Option.bind_some]
  rw [if_pos ⟨b, by omega, Nat.le_trans f (Nat.le_trans hB szM)⟩]
end Zm
set_option linter.all false
set_option autoImplicit false
set_option maxRecDepth 100000
/-! GLR: leavings by counters and customers. -/
namespace Zm
open PySem Lpp
end Zm
set_option linter.all false
set_option autoImplicit false
set_option maxRecDepth 100000
/-! GW: ways: the table of greatest worths. -/
namespace Zm
open PySem Lpp
/-- a cell of the table -/
def CellW (w : Nat → Nat → Int) (f i k : Nat) (o : Option Int) : Prop := (k < f → o = none) ∧ (f ≤ k → ∃ G, o = some G ∧ Top w 0 f i k G)
structure TabW (w : Nat → Nat → Int) (n m f : Nat) (tab : List (List (Option Int))) : Prop where
  len : tab.length = n
  row : ∀ i, i < n → ∃ r, tab[i]? = some r ∧ r.length = m ∧ ∀ k, k < m → ∃ o, r[k]? = some o ∧ CellW w f i k o
@[simp] theorem enumT_len {α : Type} : ∀ (xs : List α) (n : Nat), (enumT n xs).length = xs.length
  | [], _ => rfl
  | x :: xs, n => by simp [enumT, enumT_len xs]
end Zm
set_option linter.all false
set_option autoImplicit false
set_option maxRecDepth 100000
/-! GK: halls with room for only so many. -/
namespace Zm
open PySem Lpp
/-- when customer k leaves counter i, room for r -/
def bl (w : Nat → Nat → Int) (n : Nat) (t : Nat → Int) (r : Nat) (k i : Nat) : Int :=
  let come := if hi : i = 0 then t k else bl w n t r k (i - 1)
  let free := if hk : k = 0 then 0 else bl w n t r (k - 1) i
  let left := max come free + w i k
  if h : i + 1 < n ∧ r + 1 ≤ k then max left (bl w n t r (k - r - 1) (i + 1)) else left
termination_by (k, i)
decreasing_by
  · exact Prod.Lex.right _ (by omega)
  · exact Prod.Lex.left _ _ (by omega)
  · exact Prod.Lex.left _ _ (by omega)
section
variable {w : Nat → Nat → Int} {n : Nat} {t t' : Nat → Int} {r : Nat}
end
section
variable {h : List (List Int)} {t : List Int} {m : Nat} (H : HallOK h m) (Ht : DayOK t m)
include H Ht
end
end Zm
set_option linter.all false
set_option autoImplicit false
set_option maxRecDepth 100000
/-! GSB: draws, with bounds; what repr tells of halls and days. -/
namespace Zm
open PySem
end Zm
set_option linter.all false
set_option autoImplicit false
set_option maxRecDepth 100000
/-! GKS: where moves are seen: what is shared by the laws. -/
namespace Zm
open PySem Lpp Mv
/-! ### one minute more at one cell -/
/-! ### equality of things -/
def SHp (d : D) (k : Nat) : Prop := ∃ x, pd d = some x ∧ PyData.canLay0 x = true ∧ x.depth ≤ k
theorem shp_all : ∀ {ds : List D} {k : Nat}, (∀ d ∈ ds, SHp d k) → ∃ xs, pds ds = some xs ∧ PyData.canLayAll0 xs = true ∧ PyData.depthAll xs ≤ k
  | [], k, _ => ⟨[], rfl, rfl, by simp [PyData.depthAll]⟩
  | d :: ds, k, h => by
    obtain ⟨x, a, b, c⟩ := h d (by simp)
    obtain ⟨xs, a2, b2, c2⟩ := shp_all (ds := ds) fun d hd => h d (by simp [hd])
    exact ⟨x :: xs, by unfold pds; rw [a, a2], by simp [PyData.canLayAll0, b, b2], by simp only [PyData.depthAll]; omega⟩
theorem shp_lst {o : Bool} {ds : List D} {k : Nat} (h : ∀ d ∈ ds, SHp d k) : SHp (.lst o ds) (k + 1) := by
  obtain ⟨xs, a, b, c⟩ := shp_all h
  exact ⟨.list xs, by unfold pd; rw [a]; rfl, b, by simp only [PyData.depth]; omega⟩
theorem ne_same {d d' : D} {k : Nat} (h : SHp d k) (hk : k ≤ 64) (e : d' = d) (s : Sto) : neX d' d s = .ok false s := by
  subst e
  obtain ⟨x, a, b, c⟩ := h
  have sh : shapedD d' = some x := by
    unfold shapedD
    rw [a]
    simp only
    rw [if_pos]
    unfold SeqAt.shaped
    rw [b]; simp; omega
  unfold neX gNe
  simp only [sh]
  rw [SeqAt.eqv_refl x b]; rfl
/-! ### what is seen -/
section
variable {h : List (List Int)} {m : Nat} (H : HallOK h m)
include H
end
section
variable {h : List (List Int)} {m i : Nat} (H : HallOK h m) (hi : i + 1 < h.length) (hx : 0 < onX h i m)
include H hi hx
end
end Zm
set_option linter.all false
set_option autoImplicit false
set_option maxRecDepth 100000
set_option maxHeartbeats 2000000
/-! R17: moves refused: the law. -/
namespace Zm
open PySem Lpp
theorem hall_roz {h : List (List Int)} {m : Nat} (H : HallOK h m) (L : Low (10 ^ 14) h) : ROz (hallD h) 3 4000 := by
  have l8 := H.l8; have m8 := H.m8
  refine ((ro_tup (n := 8) (k := 1) (B := 339) (ds := h.map rowD) (fun d hd => ?_) (by simpa using l8)).mono (by decide) (by decide)).z
  obtain ⟨r, hr, rfl⟩ := List.mem_map.mp hd
  have hr1 := H.row r hr
  refine ro_tup (n := 8) (k := 0) (B := 40) (ds := r.map D.int) (fun d hd => ?_) (by simp; omega)
  obtain ⟨x, hx, rfl⟩ := List.mem_map.mp hd
  have := hr1.2 x hx
  have := L r hr x hx
  exact ro_int (by omega) (by omega)
/-- a closed thing whose text is known -/
theorem roz_is {d : D} {x : PyData} {k B : Nat} (e : pz d = some x) (h : (x.showable && decide (x.depth ≤ k) && decide (x.shown.length ≤ B) && PyData.strOk x.shown) = true) : ROz d k B := by
  simp only [Bool.and_eq_true, decide_eq_true_eq] at h
  exact ⟨x, e, h.1.1.1, h.1.1.2, h.1.2, h.2⟩
def BadZ (d : D) : Prop := fz d = d ∧ NoHa d ∧ ROz d 3 4000
def noHalls : List D := [.non, .tup [], .tup [.tup []], .lst false [.tup [.int 1, .int 2]], .tup [.lst false [.int 1, .int 2]], .tup [.tup [.int 1, .int 2], .tup [.int 1]], .tup [.tup [.int (-1)]], .tup [.tup [.bl true]], .tup [.tup [.str "1"]], .int 3, .tup [.tup [.int 1, .non]],
  .tup (List.replicate 9 (.tup [.int 1])), .tup [.tup (List.replicate 9 (.int 1))], .dic false false [] [], .tup [.int 1, .int 2]]
theorem row_no {ds : List D} {m : Nat} (p : D → Bool) (hf : fzs ds = ds) (hp : ∀ d ∈ ds, fz d = d ∧ ∀ s, f_is_amount [d] s = .ok (.bl (p d)) s) (hl : ds.length ≤ 1000000) (h : (decide (ds.length = m) && ds.all p) = false) (s : Sto) : f_is_row [.tup ds, .int (m : Nat)] s = .ok (.bl false) s := by
  rw [row_is p hf hp hl s, h]
theorem noHalls_bad : ∀ d ∈ noHalls, BadZ d := by
  have am1 : ∀ s, f_is_amount [.int 1] s = .ok (.bl true) s := fun s => amount_int 1 s
  have one : ∀ (d : D), fz d = d → NoAm d → NoHa (.tup [.tup [d]]) := fun d fd nd => by
    refine hall_is2 (r0 := [d]) (fun _ => false) (by simp [fd]) rfl (by simp) (fun x hx => ?_) (by simp)
    rw [List.mem_singleton] at hx
    subst hx
    exact ⟨by simp [fd], row_no (fun _ => false) (by simp [fd]) (fun y hy => by rw [List.mem_singleton] at hy; subst hy; exact ⟨fd, nd⟩) (by simp) (by simp)⟩
  intro d hd
  unfold noHalls at hd
  simp only [List.mem_cons, List.not_mem_nil, or_false] at hd
  rcases hd with rfl | rfl | rfl | rfl | rfl | rfl | rfl | rfl | rfl | rfl | rfl | rfl | rfl | rfl | rfl
  · exact ⟨rfl, noHa_other rfl (by simp), roz_is rfl (by decide +kernel)⟩
  · exact ⟨rfl, noHa_tall rfl (.inl rfl), roz_is rfl (by decide +kernel)⟩
  · exact ⟨rfl, noHa_wide (r0 := []) rfl rfl (by simp) (.inl rfl), roz_is rfl (by decide +kernel)⟩
  · exact ⟨rfl, noHa_other rfl (by simp), roz_is rfl (by decide +kernel)⟩
  · exact ⟨rfl, noHa_head (d0 := .lst false [.int 1, .int 2]) rfl rfl (by simp) (by simp), roz_is rfl (by decide +kernel)⟩
  · refine ⟨rfl, ?_, roz_is rfl (by decide +kernel)⟩
    refine hall_is2 (r0 := [.int 1, .int 2]) (fun d => match d with
      | .tup ds => decide (ds.length = 2)
      | _ => false) rfl rfl (by simp) (fun x hx => ?_) (by simp)
    have rr : ∀ xs : List Int, (∀ x ∈ xs, 0 ≤ x) → xs.length ≤ 1000000 → ∀ s, f_is_row [rowD xs, .int (2 : Nat)] s = .ok (.bl (decide (xs.length = 2))) s := fun xs hx hl s => by
      have := row_is (ds := xs.map D.int) (m := 2) (fun _ => true) (by simp) (fun d hd => by
        obtain ⟨x, h1, rfl⟩ := List.mem_map.mp hd
        exact ⟨rfl, fun s => by rw [amount_int, decide_eq_true (hx x h1)]⟩) (by simpa using hl) s
      rw [show rowD xs = .tup (xs.map D.int) from rfl, this]
      simp
    simp only [List.mem_cons, List.not_mem_nil, or_false] at hx
    rcases hx with rfl | rfl
    · exact ⟨rfl, rr [1, 2] (by simp) (by simp)⟩
    · exact ⟨rfl, rr [1] (by simp) (by simp)⟩
  · exact ⟨rfl, one _ rfl (noAm_neg (by decide)), roz_is rfl (by decide +kernel)⟩
  · exact ⟨rfl, one _ rfl (noAm_bl _), roz_is rfl (by decide +kernel)⟩
  · exact ⟨rfl, one _ rfl (noAm_str _), roz_is rfl (by decide +kernel)⟩
  · exact ⟨rfl, noHa_other rfl (by simp), roz_is rfl (by decide +kernel)⟩
  · refine ⟨rfl, ?_, roz_is rfl (by decide +kernel)⟩
    refine hall_is2 (r0 := [.int 1, .non]) (fun _ => false) rfl rfl (by simp) (fun x hx => ?_) (by simp)
    rw [List.mem_singleton] at hx
    subst hx
    refine ⟨rfl, row_no (fun d => match d with
      | .int _ => true
      | _ => false) rfl (fun y hy => ?_) (by simp) (by simp)⟩
    simp only [List.mem_cons, List.not_mem_nil, or_false] at hy
    rcases hy with rfl | rfl
    · exact ⟨rfl, am1⟩
    · exact ⟨rfl, noAm_non⟩
  · exact ⟨rfl, noHa_tall rfl (.inr (by decide)), roz_is rfl (by decide +kernel)⟩
  · exact ⟨rfl, noHa_wide (r0 := List.replicate 9 (.int 1)) rfl rfl (by simp) (.inr (by decide)), roz_is rfl (by decide +kernel)⟩
  · exact ⟨rfl, noHa_other rfl (by simp), roz_is rfl (by decide +kernel)⟩
  · exact ⟨rfl, noHa_head (d0 := .int 1) rfl rfl (by simp) (by simp), roz_is rfl (by decide +kernel)⟩
theorem repsB_ok {α : Type} {x : α} {m : Nat} (h1 : 1 ≤ m) (h2 : m ≤ 1000) (s : Sto) : repsT [x] (m : Int) s = .ok (List.replicate m x) s := by
  unfold repsT
  by_cases z : (m : Int) = 1
  · obtain rfl : m = 1 := by omega
    rw [if_pos (by omega)]; rfl
  · rw [if_neg z, if_pos ⟨by simp, by omega, by omega, by simp⟩, Int.toNat_natCast]
    congr 1
    induction m with
    | zero => rfl
    | succ n ih => clear ih; simp [List.flatten_replicate_singleton]
theorem reps9 {α : Type} {x : α} (s : Sto) : repsT [x] (9 : Int) s = .ok (List.replicate 9 x) s := repsB_ok (m := 9) (by decide) (by decide) s
theorem no_hall_gets {n : Nat} : Gets Well n 1 (g__law_no_hall n) BadZ := by
  unfold g__law_no_hall
  refine gets_fn (gb_lt (gb_ebE (x := noHalls) (fun s => ?_) (gb_eb (k := 1) (P1 := BadZ) (gets_bd (k := 1) (draw_gets (by decide) (by decide)) fun y hy => ix_gets hy.1 (by have := hy.2; simpa [noHalls] using this) noHalls_bad) fun d hd => gb_rt hd)))
  rw [bd_ok (a := [.tup (List.replicate 9 (.tup [.int 1])), .tup [.tup (List.replicate 9 (.int 1))], .dic false false [] [], .tup [.int 1, .int 2]]) (s' := s)]
  · exact cat_ok (by simp)
  · rw [bd_ok (a := .tup (List.replicate 9 (.tup [.int 1]))) (s' := s), bd_ok (a := .tup [.tup (List.replicate 9 (.int 1))]) (s' := s)]
    · rfl
    · rw [bd_ok (a := [List.replicate 9 1]) (s' := s)]
      · rfl
      · rw [bd_ok (reps9 s)]; rfl
    · rw [bd_ok (reps9 s)]; rfl
def BadC (h : List (List Int)) (d : D) : Prop := fz d = d ∧ BadNb h d ∧ ROz d 3 4000
theorem no_number_gets {n : Nat} {h : List (List Int)} (l1 : 1 ≤ h.length) (l8 : h.length ≤ 8) : Gets Well n 1 (g__law_no_number n ((h.length : Int) - 1)) (BadC h) := by
  have pc : ∀ s : Sto, powT 10 (9 : Int) s = .ok (10 ^ 9) s := fun s => powC (k := 9) (by decide) s
  have roi : ∀ i : Int, 0 ≤ i → i < 10 ^ 40 → ROz (.int i) 3 4000 := fun i a b => ((ro_int a b).mono (by decide) (by decide)).z
  unfold g__law_no_number
  refine gets_fn (gb_eb (k := 1) (P1 := BadC h) (gets_bdE (x := [(eI.f ((h.length : Int) - 1)), (eI.f (-(1 : Int))), D.non, (eB.f true), (eS.f ("0" : Str)), ((eT eI).f [(0 : Int)]), ((eL eI).f [(0 : Int)]), eI.f ((h.length : Int) - 1 + 10 ^ 9)]) (fun s => ?_) (gets_bd (k := 1) (draw_gets (by decide) (by decide)) fun y hy => ix_gets hy.1 (by simpa using hy.2) fun d hd => ?_)) fun d hd => gb_rt hd)
  · rw [bd_ok (a := eI.f ((h.length : Int) - 1 + 10 ^ 9)) (s' := s)]
    · rfl
    · rw [bd_ok (a := ((h.length : Int) - 1 + 10 ^ 9)) (s' := s) (by rw [bd_ok (pc s)]; rfl)]; rfl
  · simp only [List.mem_cons, List.not_mem_nil, or_false] at hd
    rcases hd with rfl | rfl | rfl | rfl | rfl | rfl | rfl | rfl
    · exact ⟨rfl, .inr ⟨_, rfl, Int.le_refl _⟩, roi _ (by omega) (by omega)⟩
    · exact ⟨rfl, .inl (noAm_neg (by decide)), roz_is rfl (by decide +kernel)⟩
    · exact ⟨rfl, .inl noAm_non, roz_is rfl (by decide +kernel)⟩
    · exact ⟨rfl, .inl (noAm_bl _), roz_is rfl (by decide +kernel)⟩
    · exact ⟨rfl, .inl (noAm_str _), roz_is rfl (by decide +kernel)⟩
    · exact ⟨rfl, .inl (noAm_tup _), roz_is rfl (by decide +kernel)⟩
    · exact ⟨rfl, .inl (noAm_lst _ _), roz_is rfl (by decide +kernel)⟩
    · exact ⟨rfl, .inr ⟨_, rfl, by omega⟩, roi _ (by omega) (by omega)⟩
def BadM (d : D) : Prop := fz d = d ∧ NoWh d ∧ ROz d 3 4000
theorem noWh_many : ∀ d ∈ [D.non, (eB.f true), (eS.f ("1" : Str)), ((eT eI).f [(1 : Int)]), ((eL eI).f [(0 : Int)]), (eB.f false)], BadM d := by
  intro d hd
  simp only [List.mem_cons, List.not_mem_nil, or_false] at hd
  rcases hd with rfl | rfl | rfl | rfl | rfl | rfl
  all_goals exact ⟨rfl, fun s => by simp [f_is_whole, mkFn, mAnd, mNot, eB, eS, eT, eL, eI], roz_is rfl (by decide +kernel)⟩
/-- an asking: what is said there -/
structure AskOK (k : Nat) (p : D × Str) : Prop where
  f : fz p.1 = p.1
  r : ROz p.1 4 20000
  w : sok p.2
  s : ∀ s, g__law_said_e0aax (k : Int) p.1 s = .ok [p.2, "value"] s
theorem tri_roz {a b c : D} (ha : ROz a 3 4000) (hb : ROz b 3 4000) (hc : ROz c 3 4000) : ROz (.tup [a, b, c]) 4 20000 :=
  (roz_tup (n := 3) (k := 3) (B := 4000) (ds := [a, b, c]) (fun d hd => by
    simp only [List.mem_cons, List.not_mem_nil, or_false] at hd
    rcases hd with rfl | rfl | rfl <;> assumption) (by simp)).mono (by decide) (by decide)
theorem ask_of {k : Nat} {a b c : D} {w : Str} (fa : fz a = a) (fb : fz b = b) (fc : fz c = c) (ha : ROz a 3 4000) (hb : ROz b 3 4000) (hc : ROz c 3 4000) (hw : sok w) (h : ∀ s, f__law_said_e0aax [.int (k : Nat), .tup [a, b, c]] s = .ok (gx__law_words w) s) : AskOK k (.tup [a, b, c], w) := by
  have ft : fz (.tup [a, b, c]) = .tup [a, b, c] := by simp [fa, fb, fc]
  refine ⟨ft, tri_roz ha hb hc, hw, fun s => ?_⟩
  unfold g__law_said_e0aax
  rw [ft, h s]
  rfl
theorem law_gets (ns : List Int) : Gets W0t 0 0 (g_law ns) (fun z => z = true) := by
  unfold g_law
  refine gets_fn (gb_sq (k := 0) (P1 := fun _ => True) (gb_ebE (fun s => range_int (by omega) (by omega)) (gb_forN (fun _ _ => True) 0 6 (by simp; omega) trivial (fun i hi v _ => ?_) fun _ _ => trivial)) fun _ _ => gb_rt rfl)
  rw [irg_len] at hi
  rw [show (irg (max 1 (min 6 (ns.length : Int))).toNat)[i]'(by simpa using hi) = (i : Int) by simp [irg]]
  refine gb_new (W := Well) (K := 1000) (fun s => ?_) fun n => ?_
  · obtain ⟨c, e, _⟩ := cell_at_T (ns := ns) (k := (i : Int)) (by omega) s
    obtain ⟨n, s', e2, w⟩ := bag1_ok (c := c + 4) s
    exact ⟨n, s', by rw [bd_ok (a := c + 4) (s' := s) (by rw [bd_ok e]; rfl)]; exact e2, w⟩
  refine gb_eb (hall3_gets (by decide) (by decide) (by decide) (by decide)) fun h ⟨m, H, hl, L⟩ => ?_
  have l1 := H.l1; have l8 := H.l8
  refine gb_eb (k := 1) no_hall_gets fun bh BH => ?_
  refine gb_eb (k := 1) (no_number_gets l1 l8) fun bi BI => ?_
  refine gb_eb (k := 1) (P1 := BadM) (gets_bd (k := 1) (draw_gets (by decide) (by decide)) fun y hy => ix_gets hy.1 (by simpa using hy.2) noWh_many) fun bm BM => ?_
  refine gb_sq (k := 0) (P1 := fun _ => True) (gb_ebE (fun s => range_ok (n := 4) (by decide)) (gb_forN (fun _ _ => True) 0 4 (by simp) trivial (fun k hk v _ => ?_) fun _ _ => trivial)) fun _ _ => gb_nx trivial
  rw [irg_len] at hk
  rw [show (irg 4)[k]'(by simpa using hk) = (k : Int) by simp [irg]]
  have fh := fz_hall h
  have rh := hall_roz H L
  have a1 : AskOK k ((eP3 eX eX eX).f (bh, bi, bm), "NoHall") := by
    have e : (eP3 eX eX eX).f (bh, bi, bm) = .tup [bh, bi, bm] := by show D.tup [fz bh, fz bi, fz bm] = _; rw [BH.1, BI.1, BM.1]
    rw [e]
    exact ask_of BH.1 BI.1 BM.1 BH.2.2 BI.2.2 BM.2.2 (sok_of _) (said_need hk BH.1 BI.1 BM.1 (by simp) · (nbx_h BH.1 BH.2.1))
  have a2 : AskOK k ((eP3 (eT (eT eI)) eX eX).f (h, bi, bm), "NoCounter") := by
    have e : (eP3 (eT (eT eI)) eX eX).f (h, bi, bm) = .tup [hallD h, bi, bm] := by show D.tup [hallD h, fz bi, fz bm] = _; rw [BI.1, BM.1]
    rw [e]
    exact ask_of fh BI.1 BM.1 rh BI.2.2 BM.2.2 (sok_of _) (said_need hk fh BI.1 BM.1 (by simp) · (nbx_c H BI.1 BI.2.1))
  have roi : ∀ i : Int, 0 ≤ i → i < 10 ^ 40 → ROz (.int i) 3 4000 := fun i a b => ((ro_int a b).mono (by decide) (by decide)).z
  have a3 : AskOK k ((eP3 (eT (eT eI)) eI eI).f (h, ((h.length : Int) - 1), (0 : Int)), "NoCounter") :=
    ask_of (a := hallD h) (b := .int ((h.length : Int) - 1)) (c := .int 0) fh rfl rfl rh (roi _ (by omega) (by omega)) (roi _ (by decide) (by decide)) (sok_of _) (said_need hk fh rfl rfl (by simp) · (nbx_c H rfl (.inr ⟨_, rfl, Int.le_refl _⟩)))
  refine gb_lt (gb_ap (by simp) ?_)
  refine gb_sq (k := 0) (P1 := fun v : List (D × Str) => v.length ≤ 10 ∧ ∀ p ∈ v, AskOK k p) (gb_if (fun c => gb_ap (by simp) (gb_nx ⟨by simp, fun p hp => ?_⟩)) fun c => gb_nx ⟨by simp, fun p hp => ?_⟩) fun asks ⟨al, ha⟩ => ?_
  · simp only [List.cons_append, List.nil_append, List.mem_cons, List.not_mem_nil, or_false] at hp
    rcases hp with rfl | rfl | rfl | rfl
    · exact a1
    · exact a2
    · exact a3
    · simp only [Bool.and_eq_true, decide_eq_true_eq] at c
      have e : (eP3 (eT (eT eI)) eI eX).f (h, (0 : Int), bm) = .tup [hallD h, .int ((0 : Nat) : Int), bm] := by show D.tup [hallD h, .int 0, fz bm] = _; rw [BM.1]; rfl
      rw [e]
      obtain rfl : k = 3 := by omega
      exact ask_of fh rfl BM.1 rh (roi _ (by decide) (by decide)) BM.2.2 (sok_of _) (said_num H (by omega) BM.1 BM.2.1)
  · simp only [List.cons_append, List.nil_append, List.mem_cons, List.not_mem_nil, or_false] at hp
    rcases hp with rfl | rfl | rfl
    · exact a1
    · exact a2
    · exact a3
  refine gb_sq (k := 0) (P1 := fun _ => True) (gb_forN (fun _ _ => True) 0 10 al trivial (fun j hj v _ => ?_) fun _ _ => trivial) fun _ _ => ?_
  · have A := ha _ (List.getElem_mem hj)
    generalize asks[j] = p at A
    obtain ⟨z, zs, ze⟩ := reprZ_T A.r (by decide) (by decide)
    have ef : eX.f p.1 = p.1 := A.f
    rw [ef]
    refine gb_ebE ze (gb_ifF (fun s => ?_) (gb_nx trivial))
    unfold orG
    rw [bd_ok (a := false) (s' := s)]
    · show bd (reprZ p.1) _ s = _
      rw [bd_ok (ze s)]; exact ne_str zs s
    · rw [bd_ok (A.s s)]
      refine ne_same (k := 1) (shp_lst fun d hd => ?_) (by decide) rfl s
      have hs : ∀ w : Str, sok w → SHp (eS.f w) 0 := fun w hw => ⟨.str w, rfl, hw, by simp [PyData.depth]⟩
      simp only [List.map_cons, List.map_nil, List.mem_cons, List.not_mem_nil, or_false] at hd
      rcases hd with rfl | rfl
      · exact hs _ A.w
      · exact hs _ (sok_of "value")
  · refine gb_sq (k := 0) (P1 := fun _ => True) (gb_ebE (x := irg (h.length - 1)) (fun s => by rw [show ((h.length : Int) - 1) = ((h.length - 1 : Nat) : Int) by omega]; exact range_ok (by omega)) (gb_forN (fun _ _ => True) 0 8 (by simp; omega) trivial (fun j hj v _ => ?_) fun _ _ => trivial)) fun _ _ => gb_nx trivial
    rw [irg_len] at hj
    rw [show (irg (h.length - 1))[j]'(by simpa using hj) = (j : Int) by simp [irg]]
    have pc : ∀ s : Sto, powT 10 (14 : Int) s = .ok (10 ^ 14) s := fun s => powC (k := 14) (by decide) s
    have sd : ∀ (n : Int) (s : Sto), g__law_said_e0aax (k : Int) ((eP3 (eT (eT eI)) eI eI).f (h, (j : Int), n)) s = .ok [] s := fun n s => by
      unfold g__law_said_e0aax
      rw [show fz ((eP3 (eT (eT eI)) eI eI).f (h, (j : Int), n)) = .tup [hallD h, .int (j : Nat), .int n] from (eP3 (eT (eT eI)) eI eI).h _, said_good hk H (by omega) s]
      rfl
    refine gb_ifF (fun s => ?_) (gb_nx trivial)
    rw [bd_ok (a := ([] : List Str)) (s' := s)]
    · exact ne_same (k := 1) (shp_lst fun d hd => by simp at hd) (by decide) rfl s
    · rw [bd_ok (a := ([] : List Str)) (s' := s), bd_ok (a := ([] : List Str)) (s' := s)]
      · exact cat_ok (by simp)
      · rw [bd_ok (a := (eP3 (eT (eT eI)) eI eI).f (h, (j : Int), -10 ^ 14)) (s' := s)]
        · exact sd _ s
        · rw [bd_ok (a := (h, (j : Int), (-10 ^ 14 : Int))) (s' := s)]
          · rfl
          · rw [bd_ok (a := (-10 ^ 14 : Int)) (s' := s) (by rw [bd_ok (pc s)]; rfl)]; rfl
      · rw [bd_ok (a := (eP3 (eT (eT eI)) eI eI).f (h, (j : Int), 10 ^ 14)) (s' := s)]
        · exact sd _ s
        · rw [bd_ok (a := (h, (j : Int), (10 ^ 14 : Int))) (s' := s)]
          · rfl
          · rw [bd_ok (pc s)]; rfl
theorem law_good : ∀ ns : List Int, ns.length ≤ 63 → ∃ s, f_law [.ro ns] [] = .ok (.bl true) s := good_of (fun ns s => tf_law (rp_ro ns) s) law_gets
end Zm
set_option Elab.async false
set_option linter.all false
set_option maxRecDepth 100000
set_option autoImplicit false
namespace Zm
open PySem PySem.Spec PyProof.Rows L2
theorem all_mk {P : Program} {w : World} {K : PySem.W.Frag} {h : Heap} {mg : Str → Option Value} {fa : Addr} {f0 : Addr} {od0 an0 : Option Addr} {sl0 : Array (Option Value)} {oc0 kV0 dc0 pm0 cd0 ct0 : Value} {f1 : Addr} {od1 an1 : Option Addr} {sl1 : Array (Option Value)} {oc1 kV1 dc1 pm1 cd1 ct1 : Value} {f2 : Addr} {od2 an2 : Option Addr} {sl2 : Array (Option Value)} {oc2 kV2 dc2 pm2 cd2 ct2 : Value} {f3 : Addr} {od3 an3 : Option Addr} {sl3 : Array (Option Value)} {oc3 kV3 dc3 pm3 cd3 ct3 : Value} {f4 : Addr} {od4 an4 : Option Addr} {sl4 : Array (Option Value)} {oc4 kV4 dc4 pm4 cd4 ct4 : Value} {f5 : Addr} {od5 an5 : Option Addr} {sl5 : Array (Option Value)} {oc5 kV5 dc5 pm5 cd5 ct5 : Value} {f6 : Addr} {od6 an6 : Option Addr} {sl6 : Array (Option Value)} {oc6 kV6 dc6 pm6 cd6 ct6 : Value} {f7 : Addr} {od7 an7 : Option Addr} {sl7 : Array (Option Value)} {oc7 kV7 dc7 pm7 cd7 ct7 : Value} {f8 : Addr} {od8 an8 : Option Addr} {sl8 : Array (Option Value)} {oc8 kV8 dc8 pm8 cd8 ct8 : Value} {f9 : Addr} {od9 an9 : Option Addr} {sl9 : Array (Option Value)} {oc9 kV9 dc9 pm9 cd9 ct9 : Value} {f10 : Addr} {od10 an10 : Option Addr} {sl10 : Array (Option Value)} {oc10 kV10 dc10 pm10 cd10 ct10 : Value} {f11 : Addr} {od11 an11 : Option Addr} {sl11 : Array (Option Value)} {oc11 kV11 dc11 pm11 cd11 ct11 : Value} {f12 : Addr} {od12 an12 : Option Addr} {sl12 : Array (Option Value)} {oc12 kV12 dc12 pm12 cd12 ct12 : Value} {f13 : Addr} {od13 an13 : Option Addr} {sl13 : Array (Option Value)} {oc13 kV13 dc13 pm13 cd13 ct13 : Value} {f14 : Addr} {od14 an14 : Option Addr} {sl14 : Array (Option Value)} {oc14 kV14 dc14 pm14 cd14 ct14 : Value} {f15 : Addr} {od15 an15 : Option Addr} {sl15 : Array (Option Value)} {oc15 kV15 dc15 pm15 cd15 ct15 : Value} {f16 : Addr} {od16 an16 : Option Addr} {sl16 : Array (Option Value)} {oc16 kV16 dc16 pm16 cd16 ct16 : Value} {f17 : Addr} {od17 an17 : Option Addr} {sl17 : Array (Option Value)} {oc17 kV17 dc17 pm17 cd17 ct17 : Value} {f18 : Addr} {od18 an18 : Option Addr} {sl18 : Array (Option Value)} {oc18 kV18 dc18 pm18 cd18 ct18 : Value} {f19 : Addr} {od19 an19 : Option Addr} {sl19 : Array (Option Value)} {oc19 kV19 dc19 pm19 cd19 ct19 : Value} {f20 : Addr} {od20 an20 : Option Addr} {sl20 : Array (Option Value)} {oc20 kV20 dc20 pm20 cd20 ct20 : Value} {f21 : Addr} {od21 an21 : Option Addr} {sl21 : Array (Option Value)} {oc21 kV21 dc21 pm21 cd21 ct21 : Value} {f22 : Addr} {od22 an22 : Option Addr} {sl22 : Array (Option Value)} {oc22 kV22 dc22 pm22 cd22 ct22 : Value} {f23 : Addr} {od23 an23 : Option Addr} {sl23 : Array (Option Value)} {oc23 kV23 dc23 pm23 cd23 ct23 : Value} {f24 : Addr} {od24 an24 : Option Addr} {sl24 : Array (Option Value)} {oc24 kV24 dc24 pm24 cd24 ct24 : Value} {f25 : Addr} {od25 an25 : Option Addr} {sl25 : Array (Option Value)} {oc25 kV25 dc25 pm25 cd25 ct25 : Value} {f26 : Addr} {od26 an26 : Option Addr} {sl26 : Array (Option Value)} {oc26 kV26 dc26 pm26 cd26 ct26 : Value} {f27 : Addr} {od27 an27 : Option Addr} {sl27 : Array (Option Value)} {oc27 kV27 dc27 pm27 cd27 ct27 : Value} {f28 : Addr} {od28 an28 : Option Addr} {sl28 : Array (Option Value)} {oc28 kV28 dc28 pm28 cd28 ct28 : Value} {f29 : Addr} {od29 an29 : Option Addr} {sl29 : Array (Option Value)} {oc29 kV29 dc29 pm29 cd29 ct29 : Value} {f30 : Addr} {od30 an30 : Option Addr} {sl30 : Array (Option Value)} {oc30 kV30 dc30 pm30 cd30 ct30 : Value} {C_NoNumber : Addr} {C_NoHall : Addr} {C_NoCounter : Addr} {C_NoDay : Addr} {C_NoCustomer : Addr} {C_NoTotals : Addr} {C_NoMany : Addr} {C_NoCustomers : Addr} {C_NoTowers : Addr} {C_NoRoom : Addr} {C_NoMove : Addr} {C_Unlike : Addr} {C_NoWay : Addr} {C_NoRoad : Addr} {C_TooMany : Addr} {C_NoText : Addr} {C_HallError : Addr} {t_MOST_COUNTERS : Tok} {t_MOST_CUSTOMERS : Tok} (X : K.In h) (G : h.Ns mainGlobals mg) (hfa : mg "law" = some (.ref fa))
    (a0 : PySem.W.nsIn K mainGlobals "_law_bag" = some (some (.ref f0))) (l0 : K.lookup f0 = some ⟨oc0, od0, .func (PySem.W.fnOf "_law_bag" "_law_bag" (defArgs (kst 45)) (defBody (kst 45)) (defScope (kst 45)) .none kV0 dc0 pm0 an0 cd0 ct0), sl0⟩) (c0 : PySem.W.codeIn K cd0 "_law_bag" = true) (k0 : PySem.W.keepIn K (.ref f0) = true)
    (a1 : PySem.W.nsIn K mainGlobals "_law_draw" = some (some (.ref f1))) (l1 : K.lookup f1 = some ⟨oc1, od1, .func (PySem.W.fnOf "_law_draw" "_law_draw" (defArgs (kst 46)) (defBody (kst 46)) (defScope (kst 46)) .none kV1 dc1 pm1 an1 cd1 ct1), sl1⟩) (c1 : PySem.W.codeIn K cd1 "_law_draw" = true) (k1 : PySem.W.keepIn K (.ref f1) = true)
    (a2 : PySem.W.nsIn K mainGlobals "_law_minutes" = some (some (.ref f2))) (l2 : K.lookup f2 = some ⟨oc2, od2, .func (PySem.W.fnOf "_law_minutes" "_law_minutes" (defArgs (kst 47)) (defBody (kst 47)) (defScope (kst 47)) .none kV2 dc2 pm2 an2 cd2 ct2), sl2⟩) (c2 : PySem.W.codeIn K cd2 "_law_minutes" = true) (k2 : PySem.W.keepIn K (.ref f2) = true)
    (a3 : PySem.W.nsIn K mainGlobals "_law_hall" = some (some (.ref f3))) (l3 : K.lookup f3 = some ⟨oc3, od3, .func (PySem.W.fnOf "_law_hall" "_law_hall" (defArgs (kst 48)) (defBody (kst 48)) (defScope (kst 48)) .none kV3 dc3 pm3 an3 cd3 ct3), sl3⟩) (c3 : PySem.W.codeIn K cd3 "_law_hall" = true) (k3 : PySem.W.keepIn K (.ref f3) = true)
    (a4 : PySem.W.nsIn K mainGlobals "_law_no_hall" = some (some (.ref f4))) (l4 : K.lookup f4 = some ⟨oc4, od4, .func (PySem.W.fnOf "_law_no_hall" "_law_no_hall" (defArgs (kst 50)) (defBody (kst 50)) (defScope (kst 50)) .none kV4 dc4 pm4 an4 cd4 ct4), sl4⟩) (c4 : PySem.W.codeIn K cd4 "_law_no_hall" = true) (k4 : PySem.W.keepIn K (.ref f4) = true)
    (a5 : PySem.W.nsIn K mainGlobals "_law_no_number" = some (some (.ref f5))) (l5 : K.lookup f5 = some ⟨oc5, od5, .func (PySem.W.fnOf "_law_no_number" "_law_no_number" (defArgs (kst 51)) (defBody (kst 51)) (defScope (kst 51)) .none kV5 dc5 pm5 an5 cd5 ct5), sl5⟩) (c5 : PySem.W.codeIn K cd5 "_law_no_number" = true) (k5 : PySem.W.keepIn K (.ref f5) = true)
    (a6 : PySem.W.nsIn K mainGlobals "_law_cell_at" = some (some (.ref f6))) (l6 : K.lookup f6 = some ⟨oc6, od6, .func (PySem.W.fnOf "_law_cell_at" "_law_cell_at" (defArgs (kst 44)) (defBody (kst 44)) (defScope (kst 44)) .none kV6 dc6 pm6 an6 cd6 ct6), sl6⟩) (c6 : PySem.W.codeIn K cd6 "_law_cell_at" = true) (k6 : PySem.W.keepIn K (.ref f6) = true)
    (a7 : PySem.W.nsIn K mainGlobals "is_whole" = some (some (.ref f7))) (l7 : K.lookup f7 = some ⟨oc7, od7, .func (PySem.W.fnOf "is_whole" "is_whole" (defArgs (kst 21)) (defBody (kst 21)) (defScope (kst 21)) .none kV7 dc7 pm7 an7 cd7 ct7), sl7⟩) (c7 : PySem.W.codeIn K cd7 "is_whole" = true) (k7 : PySem.W.keepIn K (.ref f7) = true)
    (a8 : PySem.W.nsIn K mainGlobals "is_amount" = some (some (.ref f8))) (l8 : K.lookup f8 = some ⟨oc8, od8, .func (PySem.W.fnOf "is_amount" "is_amount" (defArgs (kst 22)) (defBody (kst 22)) (defScope (kst 22)) .none kV8 dc8 pm8 an8 cd8 ct8), sl8⟩) (c8 : PySem.W.codeIn K cd8 "is_amount" = true) (k8 : PySem.W.keepIn K (.ref f8) = true)
    (a9 : PySem.W.nsIn K mainGlobals "is_row" = some (some (.ref f9))) (l9 : K.lookup f9 = some ⟨oc9, od9, .func (PySem.W.fnOf "is_row" "is_row" (defArgs (kst 23)) (defBody (kst 23)) (defScope (kst 23)) .none kV9 dc9 pm9 an9 cd9 ct9), sl9⟩) (c9 : PySem.W.codeIn K cd9 "is_row" = true) (k9 : PySem.W.keepIn K (.ref f9) = true)
    (a10 : PySem.W.nsIn K mainGlobals "is_hall" = some (some (.ref f10))) (l10 : K.lookup f10 = some ⟨oc10, od10, .func (PySem.W.fnOf "is_hall" "is_hall" (defArgs (kst 24)) (defBody (kst 24)) (defScope (kst 24)) .none kV10 dc10 pm10 an10 cd10 ct10), sl10⟩) (c10 : PySem.W.codeIn K cd10 "is_hall" = true) (k10 : PySem.W.keepIn K (.ref f10) = true)
    (a11 : PySem.W.nsIn K mainGlobals "need_hall" = some (some (.ref f11))) (l11 : K.lookup f11 = some ⟨oc11, od11, .func (PySem.W.fnOf "need_hall" "need_hall" (defArgs (kst 25)) (defBody (kst 25)) (defScope (kst 25)) .none kV11 dc11 pm11 an11 cd11 ct11), sl11⟩) (c11 : PySem.W.codeIn K cd11 "need_hall" = true) (k11 : PySem.W.keepIn K (.ref f11) = true)
    (a12 : PySem.W.nsIn K mainGlobals "need_neighbours" = some (some (.ref f12))) (l12 : K.lookup f12 = some ⟨oc12, od12, .func (PySem.W.fnOf "need_neighbours" "need_neighbours" (defArgs (kst 26)) (defBody (kst 26)) (defScope (kst 26)) .none kV12 dc12 pm12 an12 cd12 ct12), sl12⟩) (c12 : PySem.W.codeIn K cd12 "need_neighbours" = true) (k12 : PySem.W.keepIn K (.ref f12) = true)
    (a13 : PySem.W.nsIn K mainGlobals "need_both" = some (some (.ref f13))) (l13 : K.lookup f13 = some ⟨oc13, od13, .func (PySem.W.fnOf "need_both" "need_both" (defArgs (kst 28)) (defBody (kst 28)) (defScope (kst 28)) .none kV13 dc13 pm13 an13 cd13 ct13), sl13⟩) (c13 : PySem.W.codeIn K cd13 "need_both" = true) (k13 : PySem.W.keepIn K (.ref f13) = true)
    (a14 : PySem.W.nsIn K mainGlobals "leads" = some (some (.ref f14))) (l14 : K.lookup f14 = some ⟨oc14, od14, .func (PySem.W.fnOf "leads" "leads" (defArgs (kst 29)) (defBody (kst 29)) (defScope (kst 29)) .none kV14 dc14 pm14 an14 cd14 ct14), sl14⟩) (c14 : PySem.W.codeIn K cd14 "leads" = true) (k14 : PySem.W.keepIn K (.ref f14) = true)
    (a15 : PySem.W.nsIn K mainGlobals "greatest_lead" = some (some (.ref f15))) (l15 : K.lookup f15 = some ⟨oc15, od15, .func (PySem.W.fnOf "greatest_lead" "greatest_lead" (defArgs (kst 30)) (defBody (kst 30)) (defScope (kst 30)) .none kV15 dc15 pm15 an15 cd15 ct15), sl15⟩) (c15 : PySem.W.codeIn K cd15 "greatest_lead" = true) (k15 : PySem.W.keepIn K (.ref f15) = true)
    (a16 : PySem.W.nsIn K mainGlobals "can_move_by" = some (some (.ref f16))) (l16 : K.lookup f16 = some ⟨oc16, od16, .func (PySem.W.fnOf "can_move_by" "can_move_by" (defArgs (kst 31)) (defBody (kst 31)) (defScope (kst 31)) .none kV16 dc16 pm16 an16 cd16 ct16), sl16⟩) (c16 : PySem.W.codeIn K cd16 "can_move_by" = true) (k16 : PySem.W.keepIn K (.ref f16) = true)
    (a17 : PySem.W.nsIn K mainGlobals "with_rows" = some (some (.ref f17))) (l17 : K.lookup f17 = some ⟨oc17, od17, .func (PySem.W.fnOf "with_rows" "with_rows" (defArgs (kst 32)) (defBody (kst 32)) (defScope (kst 32)) .none kV17 dc17 pm17 an17 cd17 ct17), sl17⟩) (c17 : PySem.W.codeIn K cd17 "with_rows" = true) (k17 : PySem.W.keepIn K (.ref f17) = true)
    (a18 : PySem.W.nsIn K mainGlobals "greatest_ways" = some (some (.ref f18))) (l18 : K.lookup f18 = some ⟨oc18, od18, .func (PySem.W.fnOf "greatest_ways" "greatest_ways" (defArgs (kst 33)) (defBody (kst 33)) (defScope (kst 33)) .none kV18 dc18 pm18 an18 cd18 ct18), sl18⟩) (c18 : PySem.W.codeIn K cd18 "greatest_ways" = true) (k18 : PySem.W.keepIn K (.ref f18) = true)
    (a19 : PySem.W.nsIn K mainGlobals "with_total_of" = some (some (.ref f19))) (l19 : K.lookup f19 = some ⟨oc19, od19, .func (PySem.W.fnOf "with_total_of" "with_total_of" (defArgs (kst 34)) (defBody (kst 34)) (defScope (kst 34)) .none kV19 dc19 pm19 an19 cd19 ct19), sl19⟩) (c19 : PySem.W.codeIn K cd19 "with_total_of" = true) (k19 : PySem.W.keepIn K (.ref f19) = true)
    (a20 : PySem.W.nsIn K mainGlobals "moved_by" = some (some (.ref f20))) (l20 : K.lookup f20 = some ⟨oc20, od20, .func (PySem.W.fnOf "moved_by" "moved_by" (defArgs (kst 35)) (defBody (kst 35)) (defScope (kst 35)) .none kV20 dc20 pm20 an20 cd20 ct20), sl20⟩) (c20 : PySem.W.codeIn K cd20 "moved_by" = true) (k20 : PySem.W.keepIn K (.ref f20) = true)
    (a21 : PySem.W.nsIn K mainGlobals "moved" = some (some (.ref f21))) (l21 : K.lookup f21 = some ⟨oc21, od21, .func (PySem.W.fnOf "moved" "moved" (defArgs (kst 42)) (defBody (kst 42)) (defScope (kst 42)) .none kV21 dc21 pm21 an21 cd21 ct21), sl21⟩) (c21 : PySem.W.codeIn K cd21 "moved" = true) (k21 : PySem.W.keepIn K (.ref f21) = true)
    (a22 : PySem.W.nsIn K mainGlobals "_law_words" = some (some (.ref f22))) (l22 : K.lookup f22 = some ⟨oc22, od22, .func (PySem.W.fnOf "_law_words" "_law_words" (defArgs (kst 49)) (defBody (kst 49)) (defScope (kst 49)) .none kV22 dc22 pm22 an22 cd22 ct22), sl22⟩) (c22 : PySem.W.codeIn K cd22 "_law_words" = true) (k22 : PySem.W.keepIn K (.ref f22) = true)
    (a23 : PySem.W.nsIn K mainGlobals "with_minute" = some (some (.ref f23))) (l23 : K.lookup f23 = some ⟨oc23, od23, .func (PySem.W.fnOf "with_minute" "with_minute" (defArgs (kst 36)) (defBody (kst 36)) (defScope (kst 36)) .none kV23 dc23 pm23 an23 cd23 ct23), sl23⟩) (c23 : PySem.W.codeIn K cd23 "with_minute" = true) (k23 : PySem.W.keepIn K (.ref f23) = true)
    (a24 : PySem.W.nsIn K mainGlobals "moved_on" = some (some (.ref f24))) (l24 : K.lookup f24 = some ⟨oc24, od24, .func (PySem.W.fnOf "moved_on" "moved_on" (defArgs (kst 37)) (defBody (kst 37)) (defScope (kst 37)) .none kV24 dc24 pm24 an24 cd24 ct24), sl24⟩) (c24 : PySem.W.codeIn K cd24 "moved_on" = true) (k24 : PySem.W.keepIn K (.ref f24) = true)
    (a25 : PySem.W.nsIn K mainGlobals "move" = some (some (.ref f25))) (l25 : K.lookup f25 = some ⟨oc25, od25, .func (PySem.W.fnOf "move" "move" (defArgs (kst 39)) (defBody (kst 39)) (defScope (kst 39)) .none kV25 dc25 pm25 an25 cd25 ct25), sl25⟩) (c25 : PySem.W.codeIn K cd25 "move" = true) (k25 : PySem.W.keepIn K (.ref f25) = true)
    (a26 : PySem.W.nsIn K mainGlobals "moved_back" = some (some (.ref f26))) (l26 : K.lookup f26 = some ⟨oc26, od26, .func (PySem.W.fnOf "moved_back" "moved_back" (defArgs (kst 38)) (defBody (kst 38)) (defScope (kst 38)) .none kV26 dc26 pm26 an26 cd26 ct26), sl26⟩) (c26 : PySem.W.codeIn K cd26 "moved_back" = true) (k26 : PySem.W.keepIn K (.ref f26) = true)
    (a27 : PySem.W.nsIn K mainGlobals "back" = some (some (.ref f27))) (l27 : K.lookup f27 = some ⟨oc27, od27, .func (PySem.W.fnOf "back" "back" (defArgs (kst 40)) (defBody (kst 40)) (defScope (kst 40)) .none kV27 dc27 pm27 an27 cd27 ct27), sl27⟩) (c27 : PySem.W.codeIn K cd27 "back" = true) (k27 : PySem.W.keepIn K (.ref f27) = true)
    (a28 : PySem.W.nsIn K mainGlobals "can_move" = some (some (.ref f28))) (l28 : K.lookup f28 = some ⟨oc28, od28, .func (PySem.W.fnOf "can_move" "can_move" (defArgs (kst 41)) (defBody (kst 41)) (defScope (kst 41)) .none kV28 dc28 pm28 an28 cd28 ct28), sl28⟩) (c28 : PySem.W.codeIn K cd28 "can_move" = true) (k28 : PySem.W.keepIn K (.ref f28) = true)
    (a29 : PySem.W.nsIn K mainGlobals "_law_said" = some (some (.ref f29))) (l29 : K.lookup f29 = some ⟨oc29, od29, .func (PySem.W.fnOf "_law_said" "_law_said" (defArgs (kst 52)) (defBody (kst 52)) (defScope (kst 52)) .none kV29 dc29 pm29 an29 cd29 ct29), sl29⟩) (c29 : PySem.W.codeIn K cd29 "_law_said" = true) (k29 : PySem.W.keepIn K (.ref f29) = true)
    (a30 : PySem.W.nsIn K mainGlobals "law" = some (some (.ref f30))) (l30 : K.lookup f30 = some ⟨oc30, od30, .func (PySem.W.fnOf "law" "law" (defArgs (kst 53)) (defBody (kst 53)) (defScope (kst 53)) .none kV30 dc30 pm30 an30 cd30 ct30), sl30⟩) (c30 : PySem.W.codeIn K cd30 "law" = true) (k30 : PySem.W.keepIn K (.ref f30) = true)
    (ax_NoNumber : PySem.W.nsIn K mainGlobals "NoNumber" = some (some (.ref C_NoNumber)))
    (ax_NoHall : PySem.W.nsIn K mainGlobals "NoHall" = some (some (.ref C_NoHall)))
    (ax_NoCounter : PySem.W.nsIn K mainGlobals "NoCounter" = some (some (.ref C_NoCounter)))
    (ax_NoDay : PySem.W.nsIn K mainGlobals "NoDay" = some (some (.ref C_NoDay)))
    (ax_NoCustomer : PySem.W.nsIn K mainGlobals "NoCustomer" = some (some (.ref C_NoCustomer)))
    (ax_NoTotals : PySem.W.nsIn K mainGlobals "NoTotals" = some (some (.ref C_NoTotals)))
    (ax_NoMany : PySem.W.nsIn K mainGlobals "NoMany" = some (some (.ref C_NoMany)))
    (ax_NoCustomers : PySem.W.nsIn K mainGlobals "NoCustomers" = some (some (.ref C_NoCustomers)))
    (ax_NoTowers : PySem.W.nsIn K mainGlobals "NoTowers" = some (some (.ref C_NoTowers)))
    (ax_NoRoom : PySem.W.nsIn K mainGlobals "NoRoom" = some (some (.ref C_NoRoom)))
    (ax_NoMove : PySem.W.nsIn K mainGlobals "NoMove" = some (some (.ref C_NoMove)))
    (ax_Unlike : PySem.W.nsIn K mainGlobals "Unlike" = some (some (.ref C_Unlike)))
    (ax_NoWay : PySem.W.nsIn K mainGlobals "NoWay" = some (some (.ref C_NoWay)))
    (ax_NoRoad : PySem.W.nsIn K mainGlobals "NoRoad" = some (some (.ref C_NoRoad)))
    (ax_TooMany : PySem.W.nsIn K mainGlobals "TooMany" = some (some (.ref C_TooMany)))
    (ax_NoText : PySem.W.nsIn K mainGlobals "NoText" = some (some (.ref C_NoText)))
    (ax_HallError : PySem.W.nsIn K mainGlobals "HallError" = some (some (.ref C_HallError)))
    (ty_NoNumber : PySem.W.typeIn K (.ref C_NoNumber) = some (.type "type"))
    (ic_NoNumber : PySem.W.isClsIn K C_NoNumber = true)
    (ty_NoHall : PySem.W.typeIn K (.ref C_NoHall) = some (.type "type"))
    (ic_NoHall : PySem.W.isClsIn K C_NoHall = true)
    (ty_NoCounter : PySem.W.typeIn K (.ref C_NoCounter) = some (.type "type"))
    (ic_NoCounter : PySem.W.isClsIn K C_NoCounter = true)
    (ty_NoDay : PySem.W.typeIn K (.ref C_NoDay) = some (.type "type"))
    (ic_NoDay : PySem.W.isClsIn K C_NoDay = true)
    (ty_NoCustomer : PySem.W.typeIn K (.ref C_NoCustomer) = some (.type "type"))
    (ic_NoCustomer : PySem.W.isClsIn K C_NoCustomer = true)
    (ty_NoTotals : PySem.W.typeIn K (.ref C_NoTotals) = some (.type "type"))
    (ic_NoTotals : PySem.W.isClsIn K C_NoTotals = true)
    (ty_NoMany : PySem.W.typeIn K (.ref C_NoMany) = some (.type "type"))
    (ic_NoMany : PySem.W.isClsIn K C_NoMany = true)
    (ty_NoCustomers : PySem.W.typeIn K (.ref C_NoCustomers) = some (.type "type"))
    (ic_NoCustomers : PySem.W.isClsIn K C_NoCustomers = true)
    (ty_NoTowers : PySem.W.typeIn K (.ref C_NoTowers) = some (.type "type"))
    (ic_NoTowers : PySem.W.isClsIn K C_NoTowers = true)
    (ty_NoRoom : PySem.W.typeIn K (.ref C_NoRoom) = some (.type "type"))
    (ic_NoRoom : PySem.W.isClsIn K C_NoRoom = true)
    (ty_NoMove : PySem.W.typeIn K (.ref C_NoMove) = some (.type "type"))
    (ic_NoMove : PySem.W.isClsIn K C_NoMove = true)
    (ty_Unlike : PySem.W.typeIn K (.ref C_Unlike) = some (.type "type"))
    (ic_Unlike : PySem.W.isClsIn K C_Unlike = true)
    (ty_NoWay : PySem.W.typeIn K (.ref C_NoWay) = some (.type "type"))
    (ic_NoWay : PySem.W.isClsIn K C_NoWay = true)
    (ty_NoRoad : PySem.W.typeIn K (.ref C_NoRoad) = some (.type "type"))
    (ic_NoRoad : PySem.W.isClsIn K C_NoRoad = true)
    (ty_TooMany : PySem.W.typeIn K (.ref C_TooMany) = some (.type "type"))
    (ic_TooMany : PySem.W.isClsIn K C_TooMany = true)
    (ty_NoText : PySem.W.typeIn K (.ref C_NoText) = some (.type "type"))
    (ic_NoText : PySem.W.isClsIn K C_NoText = true)
    (ty_HallError : PySem.W.typeIn K (.ref C_HallError) = some (.type "type"))
    (ic_HallError : PySem.W.isClsIn K C_HallError = true)
    (hs_HallError : PySem.W.subIn K (.ref C_HallError) (.type "BaseException") = some true)
    (hd_HallError : PySem.W.hasDictIn K C_HallError = true)
    (e1_NoNumber : PySem.W.excIn K C_NoNumber excB "ValueError.__new__" = true)
    (e2_NoNumber : PySem.W.keepIn K (.ref C_NoNumber) = true)
    (hg_NoNumber : PySem.W.findIn K (.ref C_NoNumber) "__getattribute__" = some (some (.builtin "BaseException.__getattribute__")))
    (hk_NoNumber : PySem.W.findIn K (.ref C_NoNumber) "__getattr__" = some none)
    (hs_NoNumber : PySem.W.subIn K (.ref C_NoNumber) (.type "BaseException") = some true)
    (hd_NoNumber : PySem.W.hasDictIn K C_NoNumber = true)
    (ha_NoNumber : PySem.W.findIn K (.ref C_NoNumber) "__class__" = some (some (.builtin "object.__class__")))
    (hn_NoNumber : PySem.W.specialIn K (.builtin "object.__class__") "__get__" = some (some (.builtin "getset_descriptor.__get__")))
    (ht_NoNumber : PySem.W.takesIn K (.builtin "object.__class__") = some true)
    (hm_NoNumber : PySem.W.mroIn K C_NoNumber (.type "object") = some true)
    (v_NoNumber : PySem.W.subIn K (.ref C_NoNumber) (.type "ValueError") = some true)
    (u_NoNumber_NoHall : PySem.W.subIn K (.ref C_NoNumber) (.ref C_NoHall) = some false)
    (u_NoNumber_NoDay : PySem.W.subIn K (.ref C_NoNumber) (.ref C_NoDay) = some false)
    (u_NoNumber_NoCustomer : PySem.W.subIn K (.ref C_NoNumber) (.ref C_NoCustomer) = some false)
    (u_NoNumber_NoCounter : PySem.W.subIn K (.ref C_NoNumber) (.ref C_NoCounter) = some false)
    (u_NoNumber_NoNumber : PySem.W.subIn K (.ref C_NoNumber) (.ref C_NoNumber) = some true)
    (u_NoNumber_NoTotals : PySem.W.subIn K (.ref C_NoNumber) (.ref C_NoTotals) = some false)
    (u_NoNumber_NoMany : PySem.W.subIn K (.ref C_NoNumber) (.ref C_NoMany) = some false)
    (u_NoNumber_NoCustomers : PySem.W.subIn K (.ref C_NoNumber) (.ref C_NoCustomers) = some false)
    (u_NoNumber_NoTowers : PySem.W.subIn K (.ref C_NoNumber) (.ref C_NoTowers) = some false)
    (u_NoNumber_NoRoom : PySem.W.subIn K (.ref C_NoNumber) (.ref C_NoRoom) = some false)
    (u_NoNumber_NoMove : PySem.W.subIn K (.ref C_NoNumber) (.ref C_NoMove) = some false)
    (u_NoNumber_Unlike : PySem.W.subIn K (.ref C_NoNumber) (.ref C_Unlike) = some false)
    (u_NoNumber_NoWay : PySem.W.subIn K (.ref C_NoNumber) (.ref C_NoWay) = some false)
    (u_NoNumber_NoRoad : PySem.W.subIn K (.ref C_NoNumber) (.ref C_NoRoad) = some false)
    (u_NoNumber_TooMany : PySem.W.subIn K (.ref C_NoNumber) (.ref C_TooMany) = some false)
    (u_NoNumber_NoText : PySem.W.subIn K (.ref C_NoNumber) (.ref C_NoText) = some false)
    (u_NoNumber_HallError : PySem.W.subIn K (.ref C_NoNumber) (.ref C_HallError) = some true)
    (e1_NoHall : PySem.W.excIn K C_NoHall excB "ValueError.__new__" = true)
    (e2_NoHall : PySem.W.keepIn K (.ref C_NoHall) = true)
    (hg_NoHall : PySem.W.findIn K (.ref C_NoHall) "__getattribute__" = some (some (.builtin "BaseException.__getattribute__")))
    (hk_NoHall : PySem.W.findIn K (.ref C_NoHall) "__getattr__" = some none)
    (hs_NoHall : PySem.W.subIn K (.ref C_NoHall) (.type "BaseException") = some true)
    (hd_NoHall : PySem.W.hasDictIn K C_NoHall = true)
    (ha_NoHall : PySem.W.findIn K (.ref C_NoHall) "__class__" = some (some (.builtin "object.__class__")))
    (hn_NoHall : PySem.W.specialIn K (.builtin "object.__class__") "__get__" = some (some (.builtin "getset_descriptor.__get__")))
    (ht_NoHall : PySem.W.takesIn K (.builtin "object.__class__") = some true)
    (hm_NoHall : PySem.W.mroIn K C_NoHall (.type "object") = some true)
    (v_NoHall : PySem.W.subIn K (.ref C_NoHall) (.type "ValueError") = some true)
    (u_NoHall_NoHall : PySem.W.subIn K (.ref C_NoHall) (.ref C_NoHall) = some true)
    (u_NoHall_NoDay : PySem.W.subIn K (.ref C_NoHall) (.ref C_NoDay) = some false)
    (u_NoHall_NoCustomer : PySem.W.subIn K (.ref C_NoHall) (.ref C_NoCustomer) = some false)
    (u_NoHall_NoCounter : PySem.W.subIn K (.ref C_NoHall) (.ref C_NoCounter) = some false)
    (u_NoHall_NoNumber : PySem.W.subIn K (.ref C_NoHall) (.ref C_NoNumber) = some false)
    (u_NoHall_NoTotals : PySem.W.subIn K (.ref C_NoHall) (.ref C_NoTotals) = some false)
    (u_NoHall_NoMany : PySem.W.subIn K (.ref C_NoHall) (.ref C_NoMany) = some false)
    (u_NoHall_NoCustomers : PySem.W.subIn K (.ref C_NoHall) (.ref C_NoCustomers) = some false)
    (u_NoHall_NoTowers : PySem.W.subIn K (.ref C_NoHall) (.ref C_NoTowers) = some false)
    (u_NoHall_NoRoom : PySem.W.subIn K (.ref C_NoHall) (.ref C_NoRoom) = some false)
    (u_NoHall_NoMove : PySem.W.subIn K (.ref C_NoHall) (.ref C_NoMove) = some false)
    (u_NoHall_Unlike : PySem.W.subIn K (.ref C_NoHall) (.ref C_Unlike) = some false)
    (u_NoHall_NoWay : PySem.W.subIn K (.ref C_NoHall) (.ref C_NoWay) = some false)
    (u_NoHall_NoRoad : PySem.W.subIn K (.ref C_NoHall) (.ref C_NoRoad) = some false)
    (u_NoHall_TooMany : PySem.W.subIn K (.ref C_NoHall) (.ref C_TooMany) = some false)
    (u_NoHall_NoText : PySem.W.subIn K (.ref C_NoHall) (.ref C_NoText) = some false)
    (u_NoHall_HallError : PySem.W.subIn K (.ref C_NoHall) (.ref C_HallError) = some true)
    (e1_NoCounter : PySem.W.excIn K C_NoCounter excB "ValueError.__new__" = true)
    (e2_NoCounter : PySem.W.keepIn K (.ref C_NoCounter) = true)
    (hg_NoCounter : PySem.W.findIn K (.ref C_NoCounter) "__getattribute__" = some (some (.builtin "BaseException.__getattribute__")))
    (hk_NoCounter : PySem.W.findIn K (.ref C_NoCounter) "__getattr__" = some none)
    (hs_NoCounter : PySem.W.subIn K (.ref C_NoCounter) (.type "BaseException") = some true)
    (hd_NoCounter : PySem.W.hasDictIn K C_NoCounter = true)
    (ha_NoCounter : PySem.W.findIn K (.ref C_NoCounter) "__class__" = some (some (.builtin "object.__class__")))
    (hn_NoCounter : PySem.W.specialIn K (.builtin "object.__class__") "__get__" = some (some (.builtin "getset_descriptor.__get__")))
    (ht_NoCounter : PySem.W.takesIn K (.builtin "object.__class__") = some true)
    (hm_NoCounter : PySem.W.mroIn K C_NoCounter (.type "object") = some true)
    (v_NoCounter : PySem.W.subIn K (.ref C_NoCounter) (.type "ValueError") = some true)
    (u_NoCounter_NoHall : PySem.W.subIn K (.ref C_NoCounter) (.ref C_NoHall) = some false)
    (u_NoCounter_NoDay : PySem.W.subIn K (.ref C_NoCounter) (.ref C_NoDay) = some false)
    (u_NoCounter_NoCustomer : PySem.W.subIn K (.ref C_NoCounter) (.ref C_NoCustomer) = some false)
    (u_NoCounter_NoCounter : PySem.W.subIn K (.ref C_NoCounter) (.ref C_NoCounter) = some true)
    (u_NoCounter_NoNumber : PySem.W.subIn K (.ref C_NoCounter) (.ref C_NoNumber) = some false)
    (u_NoCounter_NoTotals : PySem.W.subIn K (.ref C_NoCounter) (.ref C_NoTotals) = some false)
    (u_NoCounter_NoMany : PySem.W.subIn K (.ref C_NoCounter) (.ref C_NoMany) = some false)
    (u_NoCounter_NoCustomers : PySem.W.subIn K (.ref C_NoCounter) (.ref C_NoCustomers) = some false)
    (u_NoCounter_NoTowers : PySem.W.subIn K (.ref C_NoCounter) (.ref C_NoTowers) = some false)
    (u_NoCounter_NoRoom : PySem.W.subIn K (.ref C_NoCounter) (.ref C_NoRoom) = some false)
    (u_NoCounter_NoMove : PySem.W.subIn K (.ref C_NoCounter) (.ref C_NoMove) = some false)
    (u_NoCounter_Unlike : PySem.W.subIn K (.ref C_NoCounter) (.ref C_Unlike) = some false)
    (u_NoCounter_NoWay : PySem.W.subIn K (.ref C_NoCounter) (.ref C_NoWay) = some false)
    (u_NoCounter_NoRoad : PySem.W.subIn K (.ref C_NoCounter) (.ref C_NoRoad) = some false)
    (u_NoCounter_TooMany : PySem.W.subIn K (.ref C_NoCounter) (.ref C_TooMany) = some false)
    (u_NoCounter_NoText : PySem.W.subIn K (.ref C_NoCounter) (.ref C_NoText) = some false)
    (u_NoCounter_HallError : PySem.W.subIn K (.ref C_NoCounter) (.ref C_HallError) = some true)
    (kk_NoHall : PySem.W.keepIn K (.ref C_NoHall) = true)
    (kk_NoDay : PySem.W.keepIn K (.ref C_NoDay) = true)
    (kk_NoCustomer : PySem.W.keepIn K (.ref C_NoCustomer) = true)
    (kk_NoCounter : PySem.W.keepIn K (.ref C_NoCounter) = true)
    (kk_NoNumber : PySem.W.keepIn K (.ref C_NoNumber) = true)
    (kk_NoTotals : PySem.W.keepIn K (.ref C_NoTotals) = true)
    (kk_NoMany : PySem.W.keepIn K (.ref C_NoMany) = true)
    (kk_NoCustomers : PySem.W.keepIn K (.ref C_NoCustomers) = true)
    (kk_NoTowers : PySem.W.keepIn K (.ref C_NoTowers) = true)
    (kk_NoRoom : PySem.W.keepIn K (.ref C_NoRoom) = true)
    (kk_NoMove : PySem.W.keepIn K (.ref C_NoMove) = true)
    (kk_Unlike : PySem.W.keepIn K (.ref C_Unlike) = true)
    (kk_NoWay : PySem.W.keepIn K (.ref C_NoWay) = true)
    (kk_NoRoad : PySem.W.keepIn K (.ref C_NoRoad) = true)
    (kk_TooMany : PySem.W.keepIn K (.ref C_TooMany) = true)
    (kk_NoText : PySem.W.keepIn K (.ref C_NoText) = true)
    (z_ValueError : PySem.W.nsIn K mainGlobals "ValueError" = some none)
    (z_all : PySem.W.nsIn K mainGlobals "all" = some none)
    (z_bool : PySem.W.nsIn K mainGlobals "bool" = some none)
    (z_int : PySem.W.nsIn K mainGlobals "int" = some none)
    (z_isinstance : PySem.W.nsIn K mainGlobals "isinstance" = some none)
    (z_len : PySem.W.nsIn K mainGlobals "len" = some none)
    (z_list : PySem.W.nsIn K mainGlobals "list" = some none)
    (z_max : PySem.W.nsIn K mainGlobals "max" = some none)
    (z_min : PySem.W.nsIn K mainGlobals "min" = some none)
    (z_range : PySem.W.nsIn K mainGlobals "range" = some none)
    (z_repr : PySem.W.nsIn K mainGlobals "repr" = some none)
    (z_sum : PySem.W.nsIn K mainGlobals "sum" = some none)
    (z_tuple : PySem.W.nsIn K mainGlobals "tuple" = some none)
    (z_zip : PySem.W.nsIn K mainGlobals "zip" = some none)
    (q_MOST_COUNTERS : PySem.W.nsIn K mainGlobals "MOST_COUNTERS" = some (some (.int 8 t_MOST_COUNTERS)))
    (q_MOST_CUSTOMERS : PySem.W.nsIn K mainGlobals "MOST_CUSTOMERS" = some (some (.int 8 t_MOST_CUSTOMERS))) :
    ∃ fd : FuncData, (∀ (s : Shared) (u : Value), BindsTo s fd ⟨[u], []⟩ [("script", u)]) ∧ ∀ base : Heap, K.In base → base.Ns mainGlobals mg → FnG P w K mg base 9 fa fd ["script"] (spF K mg f_law) := by
  have e := hfa.symm.trans (PySem.W.mg_of X G a30)
  cases e
  have T : Txt K mg := ⟨⟨f0, _, PySem.W.mg_of X G a0, fun_mk (st := kst 45) l0 c0 k0⟩, ⟨f1, _, PySem.W.mg_of X G a1, fun_mk (st := kst 46) l1 c1 k1⟩, ⟨f2, _, PySem.W.mg_of X G a2, fun_mk (st := kst 47) l2 c2 k2⟩, ⟨f3, _, PySem.W.mg_of X G a3, fun_mk (st := kst 48) l3 c3 k3⟩, ⟨f4, _, PySem.W.mg_of X G a4, fun_mk (st := kst 50) l4 c4 k4⟩, ⟨f5, _, PySem.W.mg_of X G a5, fun_mk (st := kst 51) l5 c5 k5⟩, ⟨f6, _, PySem.W.mg_of X G a6, fun_mk (st := kst 44) l6 c6 k6⟩, ⟨f7, _, PySem.W.mg_of X G a7, fun_mk (st := kst 21) l7 c7 k7⟩, ⟨f8, _, PySem.W.mg_of X G a8, fun_mk (st := kst 22) l8 c8 k8⟩, ⟨f9, _, PySem.W.mg_of X G a9, fun_mk (st := kst 23) l9 c9 k9⟩, ⟨f10, _, PySem.W.mg_of X G a10, fun_mk (st := kst 24) l10 c10 k10⟩, ⟨f11, _, PySem.W.mg_of X G a11, fun_mk (st := kst 25) l11 c11 k11⟩, ⟨f12, _, PySem.W.mg_of X G a12, fun_mk (st := kst 26) l12 c12 k12⟩, ⟨f13, _, PySem.W.mg_of X G a13, fun_mk (st := kst 28) l13 c13 k13⟩, ⟨f14, _, PySem.W.mg_of X G a14, fun_mk (st := kst 29) l14 c14 k14⟩, ⟨f15, _, PySem.W.mg_of X G a15, fun_mk (st := kst 30) l15 c15 k15⟩, ⟨f16, _, PySem.W.mg_of X G a16, fun_mk (st := kst 31) l16 c16 k16⟩, ⟨f17, _, PySem.W.mg_of X G a17, fun_mk (st := kst 32) l17 c17 k17⟩, ⟨f18, _, PySem.W.mg_of X G a18, fun_mk (st := kst 33) l18 c18 k18⟩, ⟨f19, _, PySem.W.mg_of X G a19, fun_mk (st := kst 34) l19 c19 k19⟩, ⟨f20, _, PySem.W.mg_of X G a20, fun_mk (st := kst 35) l20 c20 k20⟩, ⟨f21, _, PySem.W.mg_of X G a21, fun_mk (st := kst 42) l21 c21 k21⟩, ⟨f22, _, PySem.W.mg_of X G a22, fun_mk (st := kst 49) l22 c22 k22⟩, ⟨f23, _, PySem.W.mg_of X G a23, fun_mk (st := kst 36) l23 c23 k23⟩, ⟨f24, _, PySem.W.mg_of X G a24, fun_mk (st := kst 37) l24 c24 k24⟩, ⟨f25, _, PySem.W.mg_of X G a25, fun_mk (st := kst 39) l25 c25 k25⟩, ⟨f26, _, PySem.W.mg_of X G a26, fun_mk (st := kst 38) l26 c26 k26⟩, ⟨f27, _, PySem.W.mg_of X G a27, fun_mk (st := kst 40) l27 c27 k27⟩, ⟨f28, _, PySem.W.mg_of X G a28, fun_mk (st := kst 41) l28 c28 k28⟩, ⟨f29, _, PySem.W.mg_of X G a29, fun_mk (st := kst 52) l29 c29 k29⟩, ⟨C_NoNumber, PySem.W.mg_of X G ax_NoNumber, e1_NoNumber, e2_NoNumber, hs_NoNumber, ty_NoNumber⟩, ⟨C_NoHall, PySem.W.mg_of X G ax_NoHall, e1_NoHall, e2_NoHall, hs_NoHall, ty_NoHall⟩, ⟨C_NoCounter, PySem.W.mg_of X G ax_NoCounter, e1_NoCounter, e2_NoCounter, hs_NoCounter, ty_NoCounter⟩, ⟨C_NoHall, PySem.W.mg_of X G ax_NoHall, kk_NoHall⟩, ⟨C_NoDay, PySem.W.mg_of X G ax_NoDay, kk_NoDay⟩, ⟨C_NoCustomer, PySem.W.mg_of X G ax_NoCustomer, kk_NoCustomer⟩, ⟨C_NoCounter, PySem.W.mg_of X G ax_NoCounter, kk_NoCounter⟩, ⟨C_NoNumber, PySem.W.mg_of X G ax_NoNumber, kk_NoNumber⟩, ⟨C_NoTotals, PySem.W.mg_of X G ax_NoTotals, kk_NoTotals⟩, ⟨C_NoMany, PySem.W.mg_of X G ax_NoMany, kk_NoMany⟩, ⟨C_NoCustomers, PySem.W.mg_of X G ax_NoCustomers, kk_NoCustomers⟩, ⟨C_NoTowers, PySem.W.mg_of X G ax_NoTowers, kk_NoTowers⟩, ⟨C_NoRoom, PySem.W.mg_of X G ax_NoRoom, kk_NoRoom⟩, ⟨C_NoMove, PySem.W.mg_of X G ax_NoMove, kk_NoMove⟩, ⟨C_Unlike, PySem.W.mg_of X G ax_Unlike, kk_Unlike⟩, ⟨C_NoWay, PySem.W.mg_of X G ax_NoWay, kk_NoWay⟩, ⟨C_NoRoad, PySem.W.mg_of X G ax_NoRoad, kk_NoRoad⟩, ⟨C_TooMany, PySem.W.mg_of X G ax_TooMany, kk_TooMany⟩, ⟨C_NoText, PySem.W.mg_of X G ax_NoText, kk_NoText⟩, (fun c hc => by
    simp only [List.mem_cons, List.not_mem_nil, or_false] at hc
    rcases hc with rfl | rfl | rfl
    · exact ⟨_, PySem.W.mg_of X G ax_NoNumber⟩
    · exact ⟨_, PySem.W.mg_of X G ax_NoHall⟩
    · exact ⟨_, PySem.W.mg_of X G ax_NoCounter⟩), ⟨C_HallError, PySem.W.mg_of X G ax_HallError, fun c hc C g => by
    simp only [List.mem_cons, List.not_mem_nil, or_false] at hc
    rcases hc with rfl | rfl | rfl
    · have e := g.symm.trans (PySem.W.mg_of X G ax_NoNumber); cases e; exact PySem.W.exm_ref hs_HallError hd_HallError ty_HallError u_NoNumber_HallError
    · have e := g.symm.trans (PySem.W.mg_of X G ax_NoHall); cases e; exact PySem.W.exm_ref hs_HallError hd_HallError ty_HallError u_NoHall_HallError
    · have e := g.symm.trans (PySem.W.mg_of X G ax_NoCounter); cases e; exact PySem.W.exm_ref hs_HallError hd_HallError ty_HallError u_NoCounter_HallError⟩, (fun c hc => by
    simp only [List.mem_cons, List.not_mem_nil, or_false] at hc
    rcases hc with rfl | rfl | rfl
    · exact ⟨fun C g => by
        have e := g.symm.trans (PySem.W.mg_of X G ax_NoNumber); cases e
        refine ⟨⟨hg_NoNumber, hk_NoNumber, hs_NoNumber, hd_NoNumber, ha_NoNumber, hn_NoNumber, ht_NoNumber, hm_NoNumber⟩, kit_ve v_NoNumber, fun t ht q gq => ?_⟩
        simp only [List.mem_cons, List.not_mem_nil, or_false] at ht
        rcases ht with rfl | rfl | rfl | rfl | rfl | rfl | rfl | rfl | rfl | rfl | rfl | rfl | rfl | rfl | rfl | rfl
        · have e := gq.symm.trans (PySem.W.mg_of X G ax_NoHall); cases e; exact kit_sub u_NoNumber_NoNumber ic_NoHall ty_NoHall u_NoNumber_NoHall
        · have e := gq.symm.trans (PySem.W.mg_of X G ax_NoDay); cases e; exact kit_sub u_NoNumber_NoNumber ic_NoDay ty_NoDay u_NoNumber_NoDay
        · have e := gq.symm.trans (PySem.W.mg_of X G ax_NoCustomer); cases e; exact kit_sub u_NoNumber_NoNumber ic_NoCustomer ty_NoCustomer u_NoNumber_NoCustomer
        · have e := gq.symm.trans (PySem.W.mg_of X G ax_NoCounter); cases e; exact kit_sub u_NoNumber_NoNumber ic_NoCounter ty_NoCounter u_NoNumber_NoCounter
        · have e := gq.symm.trans (PySem.W.mg_of X G ax_NoNumber); cases e; exact kit_sub u_NoNumber_NoNumber ic_NoNumber ty_NoNumber u_NoNumber_NoNumber
        · have e := gq.symm.trans (PySem.W.mg_of X G ax_NoTotals); cases e; exact kit_sub u_NoNumber_NoNumber ic_NoTotals ty_NoTotals u_NoNumber_NoTotals
        · have e := gq.symm.trans (PySem.W.mg_of X G ax_NoMany); cases e; exact kit_sub u_NoNumber_NoNumber ic_NoMany ty_NoMany u_NoNumber_NoMany
        · have e := gq.symm.trans (PySem.W.mg_of X G ax_NoCustomers); cases e; exact kit_sub u_NoNumber_NoNumber ic_NoCustomers ty_NoCustomers u_NoNumber_NoCustomers
        · have e := gq.symm.trans (PySem.W.mg_of X G ax_NoTowers); cases e; exact kit_sub u_NoNumber_NoNumber ic_NoTowers ty_NoTowers u_NoNumber_NoTowers
        · have e := gq.symm.trans (PySem.W.mg_of X G ax_NoRoom); cases e; exact kit_sub u_NoNumber_NoNumber ic_NoRoom ty_NoRoom u_NoNumber_NoRoom
        · have e := gq.symm.trans (PySem.W.mg_of X G ax_NoMove); cases e; exact kit_sub u_NoNumber_NoNumber ic_NoMove ty_NoMove u_NoNumber_NoMove
        · have e := gq.symm.trans (PySem.W.mg_of X G ax_Unlike); cases e; exact kit_sub u_NoNumber_NoNumber ic_Unlike ty_Unlike u_NoNumber_Unlike
        · have e := gq.symm.trans (PySem.W.mg_of X G ax_NoWay); cases e; exact kit_sub u_NoNumber_NoNumber ic_NoWay ty_NoWay u_NoNumber_NoWay
        · have e := gq.symm.trans (PySem.W.mg_of X G ax_NoRoad); cases e; exact kit_sub u_NoNumber_NoNumber ic_NoRoad ty_NoRoad u_NoNumber_NoRoad
        · have e := gq.symm.trans (PySem.W.mg_of X G ax_TooMany); cases e; exact kit_sub u_NoNumber_NoNumber ic_TooMany ty_TooMany u_NoNumber_TooMany
        · have e := gq.symm.trans (PySem.W.mg_of X G ax_NoText); cases e; exact kit_sub u_NoNumber_NoNumber ic_NoText ty_NoText u_NoNumber_NoText⟩
    · exact ⟨fun C g => by
        have e := g.symm.trans (PySem.W.mg_of X G ax_NoHall); cases e
        refine ⟨⟨hg_NoHall, hk_NoHall, hs_NoHall, hd_NoHall, ha_NoHall, hn_NoHall, ht_NoHall, hm_NoHall⟩, kit_ve v_NoHall, fun t ht q gq => ?_⟩
        simp only [List.mem_cons, List.not_mem_nil, or_false] at ht
        rcases ht with rfl | rfl | rfl | rfl | rfl | rfl | rfl | rfl | rfl | rfl | rfl | rfl | rfl | rfl | rfl | rfl
        · have e := gq.symm.trans (PySem.W.mg_of X G ax_NoHall); cases e; exact kit_sub u_NoHall_NoHall ic_NoHall ty_NoHall u_NoHall_NoHall
        · have e := gq.symm.trans (PySem.W.mg_of X G ax_NoDay); cases e; exact kit_sub u_NoHall_NoHall ic_NoDay ty_NoDay u_NoHall_NoDay
        · have e := gq.symm.trans (PySem.W.mg_of X G ax_NoCustomer); cases e; exact kit_sub u_NoHall_NoHall ic_NoCustomer ty_NoCustomer u_NoHall_NoCustomer
        · have e := gq.symm.trans (PySem.W.mg_of X G ax_NoCounter); cases e; exact kit_sub u_NoHall_NoHall ic_NoCounter ty_NoCounter u_NoHall_NoCounter
        · have e := gq.symm.trans (PySem.W.mg_of X G ax_NoNumber); cases e; exact kit_sub u_NoHall_NoHall ic_NoNumber ty_NoNumber u_NoHall_NoNumber
        · have e := gq.symm.trans (PySem.W.mg_of X G ax_NoTotals); cases e; exact kit_sub u_NoHall_NoHall ic_NoTotals ty_NoTotals u_NoHall_NoTotals
        · have e := gq.symm.trans (PySem.W.mg_of X G ax_NoMany); cases e; exact kit_sub u_NoHall_NoHall ic_NoMany ty_NoMany u_NoHall_NoMany
        · have e := gq.symm.trans (PySem.W.mg_of X G ax_NoCustomers); cases e; exact kit_sub u_NoHall_NoHall ic_NoCustomers ty_NoCustomers u_NoHall_NoCustomers
        · have e := gq.symm.trans (PySem.W.mg_of X G ax_NoTowers); cases e; exact kit_sub u_NoHall_NoHall ic_NoTowers ty_NoTowers u_NoHall_NoTowers
        · have e := gq.symm.trans (PySem.W.mg_of X G ax_NoRoom); cases e; exact kit_sub u_NoHall_NoHall ic_NoRoom ty_NoRoom u_NoHall_NoRoom
        · have e := gq.symm.trans (PySem.W.mg_of X G ax_NoMove); cases e; exact kit_sub u_NoHall_NoHall ic_NoMove ty_NoMove u_NoHall_NoMove
        · have e := gq.symm.trans (PySem.W.mg_of X G ax_Unlike); cases e; exact kit_sub u_NoHall_NoHall ic_Unlike ty_Unlike u_NoHall_Unlike
        · have e := gq.symm.trans (PySem.W.mg_of X G ax_NoWay); cases e; exact kit_sub u_NoHall_NoHall ic_NoWay ty_NoWay u_NoHall_NoWay
        · have e := gq.symm.trans (PySem.W.mg_of X G ax_NoRoad); cases e; exact kit_sub u_NoHall_NoHall ic_NoRoad ty_NoRoad u_NoHall_NoRoad
        · have e := gq.symm.trans (PySem.W.mg_of X G ax_TooMany); cases e; exact kit_sub u_NoHall_NoHall ic_TooMany ty_TooMany u_NoHall_TooMany
        · have e := gq.symm.trans (PySem.W.mg_of X G ax_NoText); cases e; exact kit_sub u_NoHall_NoHall ic_NoText ty_NoText u_NoHall_NoText⟩
    · exact ⟨fun C g => by
        have e := g.symm.trans (PySem.W.mg_of X G ax_NoCounter); cases e
        refine ⟨⟨hg_NoCounter, hk_NoCounter, hs_NoCounter, hd_NoCounter, ha_NoCounter, hn_NoCounter, ht_NoCounter, hm_NoCounter⟩, kit_ve v_NoCounter, fun t ht q gq => ?_⟩
        simp only [List.mem_cons, List.not_mem_nil, or_false] at ht
        rcases ht with rfl | rfl | rfl | rfl | rfl | rfl | rfl | rfl | rfl | rfl | rfl | rfl | rfl | rfl | rfl | rfl
        · have e := gq.symm.trans (PySem.W.mg_of X G ax_NoHall); cases e; exact kit_sub u_NoCounter_NoCounter ic_NoHall ty_NoHall u_NoCounter_NoHall
        · have e := gq.symm.trans (PySem.W.mg_of X G ax_NoDay); cases e; exact kit_sub u_NoCounter_NoCounter ic_NoDay ty_NoDay u_NoCounter_NoDay
        · have e := gq.symm.trans (PySem.W.mg_of X G ax_NoCustomer); cases e; exact kit_sub u_NoCounter_NoCounter ic_NoCustomer ty_NoCustomer u_NoCounter_NoCustomer
        · have e := gq.symm.trans (PySem.W.mg_of X G ax_NoCounter); cases e; exact kit_sub u_NoCounter_NoCounter ic_NoCounter ty_NoCounter u_NoCounter_NoCounter
        · have e := gq.symm.trans (PySem.W.mg_of X G ax_NoNumber); cases e; exact kit_sub u_NoCounter_NoCounter ic_NoNumber ty_NoNumber u_NoCounter_NoNumber
        · have e := gq.symm.trans (PySem.W.mg_of X G ax_NoTotals); cases e; exact kit_sub u_NoCounter_NoCounter ic_NoTotals ty_NoTotals u_NoCounter_NoTotals
        · have e := gq.symm.trans (PySem.W.mg_of X G ax_NoMany); cases e; exact kit_sub u_NoCounter_NoCounter ic_NoMany ty_NoMany u_NoCounter_NoMany
        · have e := gq.symm.trans (PySem.W.mg_of X G ax_NoCustomers); cases e; exact kit_sub u_NoCounter_NoCounter ic_NoCustomers ty_NoCustomers u_NoCounter_NoCustomers
        · have e := gq.symm.trans (PySem.W.mg_of X G ax_NoTowers); cases e; exact kit_sub u_NoCounter_NoCounter ic_NoTowers ty_NoTowers u_NoCounter_NoTowers
        · have e := gq.symm.trans (PySem.W.mg_of X G ax_NoRoom); cases e; exact kit_sub u_NoCounter_NoCounter ic_NoRoom ty_NoRoom u_NoCounter_NoRoom
        · have e := gq.symm.trans (PySem.W.mg_of X G ax_NoMove); cases e; exact kit_sub u_NoCounter_NoCounter ic_NoMove ty_NoMove u_NoCounter_NoMove
        · have e := gq.symm.trans (PySem.W.mg_of X G ax_Unlike); cases e; exact kit_sub u_NoCounter_NoCounter ic_Unlike ty_Unlike u_NoCounter_Unlike
        · have e := gq.symm.trans (PySem.W.mg_of X G ax_NoWay); cases e; exact kit_sub u_NoCounter_NoCounter ic_NoWay ty_NoWay u_NoCounter_NoWay
        · have e := gq.symm.trans (PySem.W.mg_of X G ax_NoRoad); cases e; exact kit_sub u_NoCounter_NoCounter ic_NoRoad ty_NoRoad u_NoCounter_NoRoad
        · have e := gq.symm.trans (PySem.W.mg_of X G ax_TooMany); cases e; exact kit_sub u_NoCounter_NoCounter ic_TooMany ty_TooMany u_NoCounter_TooMany
        · have e := gq.symm.trans (PySem.W.mg_of X G ax_NoText); cases e; exact kit_sub u_NoCounter_NoCounter ic_NoText ty_NoText u_NoCounter_NoText⟩), PySem.W.mg_none_of X G z_ValueError, PySem.W.mg_none_of X G z_all, PySem.W.mg_none_of X G z_bool, PySem.W.mg_none_of X G z_int, PySem.W.mg_none_of X G z_isinstance, PySem.W.mg_none_of X G z_len, PySem.W.mg_none_of X G z_list, PySem.W.mg_none_of X G z_max, PySem.W.mg_none_of X G z_min, PySem.W.mg_none_of X G z_range, PySem.W.mg_none_of X G z_repr, PySem.W.mg_none_of X G z_sum, PySem.W.mg_none_of X G z_tuple, PySem.W.mg_none_of X G z_zip, ⟨t_MOST_COUNTERS, PySem.W.mg_of X G q_MOST_COUNTERS⟩, ⟨t_MOST_CUSTOMERS, PySem.W.mg_of X G q_MOST_CUSTOMERS⟩⟩
  exact ⟨_, fun s v => .of_eq rfl, fun base _ _ => ok_law T (fun_mk (st := kst 53) l30 c30 k30)⟩
end Zm
open PySem PySem.W PyProof.Rows
set_option maxHeartbeats 0 in
theorem PySem.Challenge.cw_movedminutes_k17_moves_refused_holds : PySem.Challenge.rw_movedminutes_k17_moves_refused.Holds := by
  w_on; o_law; k_head; (case hw => w_witness2)
  k_fill
  refine Zm.walk_ofG (l := PySem.Challenge.rw_movedminutes_k17_moves_refused) (n := 63) (k := 9) (x := "script") (m := Zm.f_law) rfl (by decide) rfl ⟨rfl, by decide, by decide⟩ (fun w h Y => PySem.W.kIn_of Y) ?F Zm.law_good
  case F =>
    intro w mg fa h KX G hmg
    refine' Zm.all_mk KX G hmg ?a0 ?l0 ?c0 ?k0 ?a1 ?l1 ?c1 ?k1 ?a2 ?l2 ?c2 ?k2 ?a3 ?l3 ?c3 ?k3 ?a4 ?l4 ?c4 ?k4 ?a5 ?l5 ?c5 ?k5 ?a6 ?l6 ?c6 ?k6 ?a7 ?l7 ?c7 ?k7 ?a8 ?l8 ?c8 ?k8 ?a9 ?l9 ?c9 ?k9 ?a10 ?l10 ?c10 ?k10 ?a11 ?l11 ?c11 ?k11 ?a12 ?l12 ?c12 ?k12 ?a13 ?l13 ?c13 ?k13 ?a14 ?l14 ?c14 ?k14 ?a15 ?l15 ?c15 ?k15 ?a16 ?l16 ?c16 ?k16 ?a17 ?l17 ?c17 ?k17 ?a18 ?l18 ?c18 ?k18 ?a19 ?l19 ?c19 ?k19 ?a20 ?l20 ?c20 ?k20 ?a21 ?l21 ?c21 ?k21 ?a22 ?l22 ?c22 ?k22 ?a23 ?l23 ?c23 ?k23 ?a24 ?l24 ?c24 ?k24 ?a25 ?l25 ?c25 ?k25 ?a26 ?l26 ?c26 ?k26 ?a27 ?l27 ?c27 ?k27 ?a28 ?l28 ?c28 ?k28 ?a29 ?l29 ?c29 ?k29 ?a30 ?l30 ?c30 ?k30 ?ax_NoNumber ?ax_NoHall ?ax_NoCounter ?ax_NoDay ?ax_NoCustomer ?ax_NoTotals ?ax_NoMany ?ax_NoCustomers ?ax_NoTowers ?ax_NoRoom ?ax_NoMove ?ax_Unlike ?ax_NoWay ?ax_NoRoad ?ax_TooMany ?ax_NoText ?ax_HallError ?ty_NoNumber ?ic_NoNumber ?ty_NoHall ?ic_NoHall ?ty_NoCounter ?ic_NoCounter ?ty_NoDay ?ic_NoDay ?ty_NoCustomer ?ic_NoCustomer ?ty_NoTotals ?ic_NoTotals ?ty_NoMany ?ic_NoMany ?ty_NoCustomers ?ic_NoCustomers ?ty_NoTowers ?ic_NoTowers ?ty_NoRoom ?ic_NoRoom ?ty_NoMove ?ic_NoMove ?ty_Unlike ?ic_Unlike ?ty_NoWay ?ic_NoWay ?ty_NoRoad ?ic_NoRoad ?ty_TooMany ?ic_TooMany ?ty_NoText ?ic_NoText ?ty_HallError ?ic_HallError ?hs_HallError ?hd_HallError ?e1_NoNumber ?e2_NoNumber ?hg_NoNumber ?hk_NoNumber ?hs_NoNumber ?hd_NoNumber ?ha_NoNumber ?hn_NoNumber ?ht_NoNumber ?hm_NoNumber ?v_NoNumber ?u_NoNumber_NoHall ?u_NoNumber_NoDay ?u_NoNumber_NoCustomer ?u_NoNumber_NoCounter ?u_NoNumber_NoNumber ?u_NoNumber_NoTotals ?u_NoNumber_NoMany ?u_NoNumber_NoCustomers ?u_NoNumber_NoTowers ?u_NoNumber_NoRoom ?u_NoNumber_NoMove ?u_NoNumber_Unlike ?u_NoNumber_NoWay ?u_NoNumber_NoRoad ?u_NoNumber_TooMany ?u_NoNumber_NoText ?u_NoNumber_HallError ?e1_NoHall ?e2_NoHall ?hg_NoHall ?hk_NoHall ?hs_NoHall ?hd_NoHall ?ha_NoHall ?hn_NoHall ?ht_NoHall ?hm_NoHall ?v_NoHall ?u_NoHall_NoHall ?u_NoHall_NoDay ?u_NoHall_NoCustomer ?u_NoHall_NoCounter ?u_NoHall_NoNumber ?u_NoHall_NoTotals ?u_NoHall_NoMany ?u_NoHall_NoCustomers ?u_NoHall_NoTowers ?u_NoHall_NoRoom ?u_NoHall_NoMove ?u_NoHall_Unlike ?u_NoHall_NoWay ?u_NoHall_NoRoad ?u_NoHall_TooMany ?u_NoHall_NoText ?u_NoHall_HallError ?e1_NoCounter ?e2_NoCounter ?hg_NoCounter ?hk_NoCounter ?hs_NoCounter ?hd_NoCounter ?ha_NoCounter ?hn_NoCounter ?ht_NoCounter ?hm_NoCounter ?v_NoCounter ?u_NoCounter_NoHall ?u_NoCounter_NoDay ?u_NoCounter_NoCustomer ?u_NoCounter_NoCounter ?u_NoCounter_NoNumber ?u_NoCounter_NoTotals ?u_NoCounter_NoMany ?u_NoCounter_NoCustomers ?u_NoCounter_NoTowers ?u_NoCounter_NoRoom ?u_NoCounter_NoMove ?u_NoCounter_Unlike ?u_NoCounter_NoWay ?u_NoCounter_NoRoad ?u_NoCounter_TooMany ?u_NoCounter_NoText ?u_NoCounter_HallError ?kk_NoHall ?kk_NoDay ?kk_NoCustomer ?kk_NoCounter ?kk_NoNumber ?kk_NoTotals ?kk_NoMany ?kk_NoCustomers ?kk_NoTowers ?kk_NoRoom ?kk_NoMove ?kk_Unlike ?kk_NoWay ?kk_NoRoad ?kk_TooMany ?kk_NoText ?z_ValueError ?z_all ?z_bool ?z_int ?z_isinstance ?z_len ?z_list ?z_max ?z_min ?z_range ?z_repr ?z_sum ?z_tuple ?z_zip ?q_MOST_COUNTERS ?q_MOST_CUSTOMERS
    (case a0 => k_is)
    (case l0 => k_is)
    (case c0 => k_is)
    (case k0 => k_is)
    (case a1 => k_is)
    (case l1 => k_is)
    (case c1 => k_is)
    (case k1 => k_is)
    (case a2 => k_is)
    (case l2 => k_is)
    (case c2 => k_is)
    (case k2 => k_is)
    (case a3 => k_is)
    (case l3 => k_is)
    (case c3 => k_is)
    (case k3 => k_is)
    (case a4 => k_is)
    (case l4 => k_is)
    (case c4 => k_is)
    (case k4 => k_is)
    (case a5 => k_is)
    (case l5 => k_is)
    (case c5 => k_is)
    (case k5 => k_is)
    (case a6 => k_is)
    (case l6 => k_is)
    (case c6 => k_is)
    (case k6 => k_is)
    (case a7 => k_is)
    (case l7 => k_is)
    (case c7 => k_is)
    (case k7 => k_is)
    (case a8 => k_is)
    (case l8 => k_is)
    (case c8 => k_is)
    (case k8 => k_is)
    (case a9 => k_is)
    (case l9 => k_is)
    (case c9 => k_is)
    (case k9 => k_is)
    (case a10 => k_is)
    (case l10 => k_is)
    (case c10 => k_is)
    (case k10 => k_is)
    (case a11 => k_is)
    (case l11 => k_is)
    (case c11 => k_is)
    (case k11 => k_is)
    (case a12 => k_is)
    (case l12 => k_is)
    (case c12 => k_is)
    (case k12 => k_is)
    (case a13 => k_is)
    (case l13 => k_is)
    (case c13 => k_is)
    (case k13 => k_is)
    (case a14 => k_is)
    (case l14 => k_is)
    (case c14 => k_is)
    (case k14 => k_is)
    (case a15 => k_is)
    (case l15 => k_is)
    (case c15 => k_is)
    (case k15 => k_is)
    (case a16 => k_is)
    (case l16 => k_is)
    (case c16 => k_is)
    (case k16 => k_is)
    (case a17 => k_is)
    (case l17 => k_is)
    (case c17 => k_is)
    (case k17 => k_is)
    (case a18 => k_is)
    (case l18 => k_is)
    (case c18 => k_is)
    (case k18 => k_is)
    (case a19 => k_is)
    (case l19 => k_is)
    (case c19 => k_is)
    (case k19 => k_is)
    (case a20 => k_is)
    (case l20 => k_is)
    (case c20 => k_is)
    (case k20 => k_is)
    (case a21 => k_is)
    (case l21 => k_is)
    (case c21 => k_is)
    (case k21 => k_is)
    (case a22 => k_is)
    (case l22 => k_is)
    (case c22 => k_is)
    (case k22 => k_is)
    (case a23 => k_is)
    (case l23 => k_is)
    (case c23 => k_is)
    (case k23 => k_is)
    (case a24 => k_is)
    (case l24 => k_is)
    (case c24 => k_is)
    (case k24 => k_is)
    (case a25 => k_is)
    (case l25 => k_is)
    (case c25 => k_is)
    (case k25 => k_is)
    (case a26 => k_is)
    (case l26 => k_is)
    (case c26 => k_is)
    (case k26 => k_is)
    (case a27 => k_is)
    (case l27 => k_is)
    (case c27 => k_is)
    (case k27 => k_is)
    (case a28 => k_is)
    (case l28 => k_is)
    (case c28 => k_is)
    (case k28 => k_is)
    (case a29 => k_is)
    (case l29 => k_is)
    (case c29 => k_is)
    (case k29 => k_is)
    (case a30 => k_is)
    (case l30 => k_is)
    (case c30 => k_is)
    (case k30 => k_is)
    (case ax_NoNumber => k_is)
    (case ax_NoHall => k_is)
    (case ax_NoCounter => k_is)
    (case ax_NoDay => k_is)
    (case ax_NoCustomer => k_is)
    (case ax_NoTotals => k_is)
    (case ax_NoMany => k_is)
    (case ax_NoCustomers => k_is)
    (case ax_NoTowers => k_is)
    (case ax_NoRoom => k_is)
    (case ax_NoMove => k_is)
    (case ax_Unlike => k_is)
    (case ax_NoWay => k_is)
    (case ax_NoRoad => k_is)
    (case ax_TooMany => k_is)
    (case ax_NoText => k_is)
    (case ax_HallError => k_is)
    (case ty_NoNumber => k_is)
    (case ic_NoNumber => k_is)
    (case ty_NoHall => k_is)
    (case ic_NoHall => k_is)
    (case ty_NoCounter => k_is)
    (case ic_NoCounter => k_is)
    (case ty_NoDay => k_is)
    (case ic_NoDay => k_is)
    (case ty_NoCustomer => k_is)
    (case ic_NoCustomer => k_is)
    (case ty_NoTotals => k_is)
    (case ic_NoTotals => k_is)
    (case ty_NoMany => k_is)
    (case ic_NoMany => k_is)
    (case ty_NoCustomers => k_is)
    (case ic_NoCustomers => k_is)
    (case ty_NoTowers => k_is)
    (case ic_NoTowers => k_is)
    (case ty_NoRoom => k_is)
    (case ic_NoRoom => k_is)
    (case ty_NoMove => k_is)
    (case ic_NoMove => k_is)
    (case ty_Unlike => k_is)
    (case ic_Unlike => k_is)
    (case ty_NoWay => k_is)
    (case ic_NoWay => k_is)
    (case ty_NoRoad => k_is)
    (case ic_NoRoad => k_is)
    (case ty_TooMany => k_is)
    (case ic_TooMany => k_is)
    (case ty_NoText => k_is)
    (case ic_NoText => k_is)
    (case ty_HallError => k_is)
    (case ic_HallError => k_is)
    (case hs_HallError => k_is)
    (case hd_HallError => k_is)
    (case e1_NoNumber => k_exc)
    (case e2_NoNumber => k_is)
    (case hg_NoNumber => k_is)
    (case hk_NoNumber => k_is)
    (case hs_NoNumber => k_is)
    (case hd_NoNumber => k_is)
    (case ha_NoNumber => k_is)
    (case hn_NoNumber => k_is)
    (case ht_NoNumber => k_is)
    (case hm_NoNumber => k_is)
    (case v_NoNumber => k_is)
    (case u_NoNumber_NoHall => k_is)
    (case u_NoNumber_NoDay => k_is)
    (case u_NoNumber_NoCustomer => k_is)
    (case u_NoNumber_NoCounter => k_is)
    (case u_NoNumber_NoNumber => k_is)
    (case u_NoNumber_NoTotals => k_is)
    (case u_NoNumber_NoMany => k_is)
    (case u_NoNumber_NoCustomers => k_is)
    (case u_NoNumber_NoTowers => k_is)
    (case u_NoNumber_NoRoom => k_is)
    (case u_NoNumber_NoMove => k_is)
    (case u_NoNumber_Unlike => k_is)
    (case u_NoNumber_NoWay => k_is)
    (case u_NoNumber_NoRoad => k_is)
    (case u_NoNumber_TooMany => k_is)
    (case u_NoNumber_NoText => k_is)
    (case u_NoNumber_HallError => k_is)
    (case e1_NoHall => k_exc)
    (case e2_NoHall => k_is)
    (case hg_NoHall => k_is)
    (case hk_NoHall => k_is)
    (case hs_NoHall => k_is)
    (case hd_NoHall => k_is)
    (case ha_NoHall => k_is)
    (case hn_NoHall => k_is)
    (case ht_NoHall => k_is)
    (case hm_NoHall => k_is)
    (case v_NoHall => k_is)
    (case u_NoHall_NoHall => k_is)
    (case u_NoHall_NoDay => k_is)
    (case u_NoHall_NoCustomer => k_is)
    (case u_NoHall_NoCounter => k_is)
    (case u_NoHall_NoNumber => k_is)
    (case u_NoHall_NoTotals => k_is)
    (case u_NoHall_NoMany => k_is)
    (case u_NoHall_NoCustomers => k_is)
    (case u_NoHall_NoTowers => k_is)
    (case u_NoHall_NoRoom => k_is)
    (case u_NoHall_NoMove => k_is)
    (case u_NoHall_Unlike => k_is)
    (case u_NoHall_NoWay => k_is)
    (case u_NoHall_NoRoad => k_is)
    (case u_NoHall_TooMany => k_is)
    (case u_NoHall_NoText => k_is)
    (case u_NoHall_HallError => k_is)
    (case e1_NoCounter => k_exc)
    (case e2_NoCounter => k_is)
    (case hg_NoCounter => k_is)
    (case hk_NoCounter => k_is)
    (case hs_NoCounter => k_is)
    (case hd_NoCounter => k_is)
    (case ha_NoCounter => k_is)
    (case hn_NoCounter => k_is)
    (case ht_NoCounter => k_is)
    (case hm_NoCounter => k_is)
    (case v_NoCounter => k_is)
    (case u_NoCounter_NoHall => k_is)
    (case u_NoCounter_NoDay => k_is)
    (case u_NoCounter_NoCustomer => k_is)
    (case u_NoCounter_NoCounter => k_is)
    (case u_NoCounter_NoNumber => k_is)
    (case u_NoCounter_NoTotals => k_is)
    (case u_NoCounter_NoMany => k_is)
    (case u_NoCounter_NoCustomers => k_is)
    (case u_NoCounter_NoTowers => k_is)
    (case u_NoCounter_NoRoom => k_is)
    (case u_NoCounter_NoMove => k_is)
    (case u_NoCounter_Unlike => k_is)
    (case u_NoCounter_NoWay => k_is)
    (case u_NoCounter_NoRoad => k_is)
    (case u_NoCounter_TooMany => k_is)
    (case u_NoCounter_NoText => k_is)
    (case u_NoCounter_HallError => k_is)
    (case kk_NoHall => k_is)
    (case kk_NoDay => k_is)
    (case kk_NoCustomer => k_is)
    (case kk_NoCounter => k_is)
    (case kk_NoNumber => k_is)
    (case kk_NoTotals => k_is)
    (case kk_NoMany => k_is)
    (case kk_NoCustomers => k_is)
    (case kk_NoTowers => k_is)
    (case kk_NoRoom => k_is)
    (case kk_NoMove => k_is)
    (case kk_Unlike => k_is)
    (case kk_NoWay => k_is)
    (case kk_NoRoad => k_is)
    (case kk_TooMany => k_is)
    (case kk_NoText => k_is)
    (case z_ValueError => k_is)
    (case z_all => k_is)
    (case z_bool => k_is)
    (case z_int => k_is)
    (case z_isinstance => k_is)
    (case z_len => k_is)
    (case z_list => k_is)
    (case z_max => k_is)
    (case z_min => k_is)
    (case z_range => k_is)
    (case z_repr => k_is)
    (case z_sum => k_is)
    (case z_tuple => k_is)
    (case z_zip => k_is)
    (case q_MOST_COUNTERS => k_is)
    (case q_MOST_CUSTOMERS => k_is)
