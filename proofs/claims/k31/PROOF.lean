import PyProof.Rows.All
import HandS.ForMost
import HandS.ForExc
import HandS.Zip
import HandS.Wide
import HandS.Walk
import HandS.Rev
import KE.GoesNew
import KE.GoesMore
import KE.GoesZip
import KE.GoesEnum
import HandS.ExcCtx
import HandS.HotCalls
import HandS.ExcIs
import HandS.TupAny
import HandS.TupMul
import HandS.TupLe
import HandS.IsInst
import HandS.SortInts
import PyProof.Rows.RuleB_pow
import HandS.Style
import PyProof.CallFns
import KE.DataMinMax
import PyProof.SumAny
import HandS.Deep
import HandS.Small
import HandS.Iter
import PyProof.ListIndex
import KE.KEqDict
import PyProof.DictFindH
import PyProof.DictRoadsH
import HandS.Conv
import HandS.More
import HandS.Flt
import PyProof.ListNew
import HandS.SortOrd
import HandS.DictTup
import KE.KDictCopyH
import HandS.SortKw
import KE.SortData
import HandS.Comp
import PyProof.TupleIter
import HandS.Text
import KE.KIndexOf
import PyProof.ReprRoads
import KE.KDictWalk
import KE.DataMinKey
import Wide.All
import OpenK.AllK
import Wide.FinOn
import PySem.Challenge.RW_movedminutes_k31_towers_by_putting_in
set_option Elab.async false
set_option linter.all false
set_option maxRecDepth 100000
set_option autoImplicit false
/-! ZI: zip and enumerate over rows of either kind (a tuple: true, a list: false). -/
namespace Zi
open PySem PySem.Spec PyProof.Rows L2
def Sq (K : PySem.W.Frag) (b : Bool) (H : Hp) (p : Addr) (xs : List V) : Prop := match b with
  | true => SqT K H p xs
  | false => SqL K H p xs
def SeqAt (b : Bool) (h : Heap) (p : Addr) (its : Array Value) : Prop := match b with
  | true => h.IsTuple p its
  | false => h.IsList p its
def IterAt (b : Bool) (h : Heap) (it p : Addr) (i : Nat) : Prop := match b with
  | true => h.IsTupleIter it p i
  | false => h.IsListIter it p i
def itObj (b : Bool) (p : Addr) : Obj := match b with
  | true => { cls := .type "tuple_iterator", data := .fields #[.ref p, .int 0 0] }
  | false => { cls := .type "list_iterator", data := .fields #[.ref p, .int 0 0] }
section
variable {X : Cx} {pins : List (Addr × Obj)} {σ : L2.St} {H : Hp} {s : Shared} {b : Bool} {p : Addr} {xs ys : List V}
theorem seq_of (I : Inv X pins σ H s) (h : Sq X.K b H p xs) : ∃ its : List Value, Vals xs its ∧ SeqAt b s.heap p its.toArray ∧ p < s.heap.objs.size := by
  cases b with
  | true => obtain ⟨its, r, q, _⟩ := I.tuple h; exact ⟨its, r, q, q.lt⟩
  | false => obtain ⟨its, r, q, _⟩ := I.list h; exact ⟨its, r, q.isList, q.lt⟩
theorem seq_inj (I : Inv X pins σ H s) (h : Sq X.K b H p xs) (h' : Sq X.K b H p ys) : xs = ys := by
  cases b with
  | true => exact I.tuple_inj h h'
  | false => exact I.list_inj h h'
theorem begins (b : Bool) (p : Addr) (its : Array Value) : Begins (.ref p) (itObj b p) (fun h => SeqAt b h p its) := by
  cases b with
  | true => exact begins_tuple p its
  | false => exact begins_list p its
theorem itObj_at {h : Heap} {it : Addr} (e : h.get? it = some (itObj b p)) : IterAt b h it p 0 := by
  cases b with
  | true => exact ⟨_, e, rfl, rfl⟩
  | false => exact ⟨_, e, rfl, rfl⟩
theorem draws {prog : Program} {w : World} {A : Around} (hh : A.handled = none) (b : Bool) (it l : Addr) (hne : l ≠ it) (items : Array Value) :
    Draws prog w A it [it, l] items.size (fun i v => items[i]? = some v) (fun i h => IterAt b h it l i ∧ SeqAt b h l items) := by
  cases b with
  | true => exact Draws.tuple hh it l hne items
  | false => exact Draws.list hh it l hne items
theorem IterAt.keep {h h' : Heap} {it l : Addr} {i : Nat} (x : IterAt b h it l i) (k : ∀ o, h.get? it = some o → h'.get? it = some o) : IterAt b h' it l i := by
  cases b with
  | true => exact Heap.IsTupleIter.at (show h.IsTupleIter it l i from x) k
  | false => exact Heap.IsListIter.at (show h.IsListIter it l i from x) k
theorem IterAt.obj {h : Heap} {it l : Addr} {i : Nat} (x : IterAt b h it l i) : ∃ o, h.get? it = some o ∧ ∀ v, o.data ≠ .cell v := by
  cases b with
  | true => obtain ⟨o, e, _, d⟩ := x; exact ⟨o, e, fun v q => by rw [d] at q; cases q⟩
  | false => obtain ⟨o, e, _, d⟩ := x; exact ⟨o, e, fun v q => by rw [d] at q; cases q⟩
end
/-! ### two -/
end Zi
set_option Elab.async false
set_option linter.all false
set_option maxRecDepth 100000
set_option autoImplicit false
/-! ZI2: zip of three, enumerate of either kind. -/
namespace Zi
open PySem PySem.Spec PyProof.Rows L2
/-! ### enumerate -/
set_option maxHeartbeats 1000000 in
theorem meets_enum1 {v : Value} {o : Obj} {G : Heap → Prop} (B : Begins v o G) :
    Meets (Builtin.«enumerate.__new__» ⟨[.type "enumerate", v], []⟩) (fun _ R s => G s.heap ∧
      R (.ok (.ret (.ref (s.heap.push o).objs.size))) { s with heap := (s.heap.push o).push { cls := .type "enumerate", data := .fields #[.none, .bool false, .ref s.heap.objs.size, rawInt 0, .none, .none] } }) := by
  refine .of_wp fun prog w A R s h => ?_
  obtain ⟨hp, g, d, tk, os⟩ := s
  obtain ⟨h1, h⟩ := h
  have hsub := sub_enumerate
  have q1 : ∀ {A' : Around} {E : Value → Shared → Prop} {Q : Value → Shared → Prop},
      Q (.ref hp.objs.size) ⟨hp.push o, g, d, tk, os⟩ → wpAny (model prog w) A' (pyIter v) Q E ⟨hp, g, d, tk, os⟩ := by
    intro A' E Q q
    exact B.iter prog w _ _ ⟨hp, g, d, tk, os⟩ _ h1 q
  wp_walk using q1
  refine wpAny_stack_any ?_
  intro st
  refine wpAny_pure ?_
  split
  · rename_i c _ _ _ _ _
    cases (c == Value.type "enumerate") <;> (wp_walk using q1; exact ⟨_, rfl, h⟩)
  · (wp_walk using q1; exact ⟨_, rfl, h⟩)
theorem enum1 {prog : Program} {w : World} {A : Around} {E : Value → Shared → Prop} {s : Shared} {v : Value} {o : Obj} {G : Heap → Prop} {Q : Value → Shared → Prop} (B : Begins v o G) (h1 : G s.heap)
    (h : ∀ h', IsEnum h' (s.heap.objs.size + 1) s.heap.objs.size 0 .none → h'.get? s.heap.objs.size = some o →
      (∀ b o, s.heap.get? b = some o → h'.get? b = some o) → Q (.ref (s.heap.objs.size + 1)) { s with heap := h' }) :
    wpAny (model prog w) A (call (.type "enumerate") [v]) Q E s := by
  refine callType_new F.called_enumerate (by decide) (F.typeCall_enumerate_1 _) (F.newCall_enumerate_1 _)
    (fun obj => F.args_object_init_2 obj _) F.entry_enumerate_new (meets_enum1 B) ⟨h1, ?_⟩
  have n1 : (s.heap.push o).objs.size = s.heap.objs.size + 1 := Heap.size_push ..
  have at2 := Heap.get?_push_size (s.heap.push o) (o := { cls := .type "enumerate", data := .fields #[.none, .bool false, .ref s.heap.objs.size, rawInt 0, .none, .none] }) rfl
  rw [n1] at at2
  show _ ∧ _
  rw [n1]
  exact ⟨⟨_, at2, rfl⟩, h _ at2 (Heap.get?_push_of_some _ (Heap.get?_push_size _ B.free)) fun b o x => Heap.get?_push_of_some _ (Heap.get?_push_of_some _ x)⟩
def ItE (K : PySem.W.Frag) (b : Bool) (p : Addr) : It :=
  ⟨fun i H => ∃ (xs : List V) (x : V), Sq K b H p xs ∧ xs[i]? = some x,
   fun i H v H' => ∃ T x, v = .ref T ∧ H T = none ∧ H' = upd H T (.tup [.int (i : Nat), x]) ∧ ∀ xs, Sq K b H p xs → xs[i]? = some x,
   fun i H => ∃ xs : List V, Sq K b H p xs ∧ i = xs.length⟩
theorem turnE {P : Program} {w : World} {K : PySem.W.Frag} {elts : List Expr} {kk : Nat} {tpos : Pos} {b : Bool} {p e it : Addr} (hp : p ≠ it) (hei : e ≠ it) (hep : e ≠ p) :
    Turn P w K (.Tuple elts kk tpos) (ItE K b p) [e, it] e (fun i h => (∃ old, IsEnum h e it ((i : Nat) : Int) old) ∧ IterAt b h it p i) where
  mem := by simp
  obj := by
    rintro i h ⟨⟨old, he⟩, h1⟩ c hc
    simp only [List.mem_cons, List.not_mem_nil, or_false] at hc
    rcases hc with rfl | rfl
    · exact ⟨_, he, fun v q => nomatch q⟩
    · exact h1.obj
  keep := by
    rintro i h h' ⟨⟨old, he⟩, h1⟩ k
    exact ⟨⟨old, k e (by simp) _ he⟩, h1.keep fun o q => k it (by simp) o q⟩
  item := by
    intro X hP hw hK hc i pins s σ H E I hf st hg
    subst hP hw hK
    obtain ⟨⟨old, he⟩, h1⟩ := st
    obtain ⟨xs, x, sx, ex⟩ := hg
    obtain ⟨its, rv, a1, _⟩ := seq_of I sx
    obtain ⟨u, hu, ru⟩ := rv.get ex
    have hh := I.ok.hd hc
    have hel : e < s.heap.objs.size := Heap.lt_size he
    have hil : it < s.heap.objs.size := by obtain ⟨o, q, _⟩ := h1.obj; exact Heap.lt_size q
    refine wpAny_pyNext_enum_itemD (draws (by exact hh) b it p hp its.toArray) he ⟨h1, a1⟩ (by simpa using (List.getElem?_eq_some_iff.mp hu).1) hei (by simp [hei, hep]) ?_
    intro x1 h' tk e1 ho st1 hN hsz hk
    have e1 : x1 = u := by have := e1; simp [hu] at this; exact this.symm
    subst e1
    refine ⟨_, rfl, wpAny_letOwnedTupleGo_enum (s := { s with heap := h', toks := tk + 1 }) ho fun h'' he' sb => ?_⟩
    have hN2 : h''.get? s.heap.objs.size = some { cls := .type "tuple", data := .seq #[.int i tk, x1] } := (sb.2 _ (Nat.ne_of_gt hel)).trans hN
    have new : ObjOk X.prog X.w (upd H s.heap.objs.size (.tup [.int (i : Nat), x])) h'' s.heap.objs.size (.tup [.int (i : Nat), x]) :=
      ⟨by show 2 ≤ sizeLine; decide, [.int i tk, x1], .cons ⟨_, rfl⟩ (.cons ru .nil), ⟨_, hN2, rfl, _, rfl⟩⟩
    have I1 : Inv X pins σ (upd H s.heap.objs.size (.tup [.int (i : Nat), x])) { s with heap := h'', toks := tk + 1 } := by
      refine I.turnedNew (ch := [e, it]) (fun c o hb q => ?_) hf (Nat.le_refl _) new
      simp only [List.mem_cons, List.not_mem_nil, or_false, not_or] at hb
      exact (sb.2 c hb.1).trans (hk c o hb.1 hb.2 q)
    refine ⟨.ref s.heap.objs.size, _, I1, rfl, ⟨_, x, rfl, I.hok.fresh (Nat.le_refl _), rfl, fun l hl => by rw [seq_inj I hl sx]; exact ex⟩, ⟨⟨x1, ?_⟩, st1.1.keep fun o q => (sb.2 it hei.symm).trans q⟩, fun c hcm => ?_⟩
    · have e1 : ((i + 1 : Nat) : Int) = (i : Int) + 1 := by omega
      rw [e1]; exact he'
    · have hc' : c < s.heap.objs.size := by
        simp only [List.mem_cons, List.not_mem_nil, or_false] at hcm
        rcases hcm with rfl | rfl
        · exact hel
        · exact hil
      rw [upd_ne (Nat.ne_of_lt hc')]
      exact (hf c hcm).1
  done := by
    intro X hP hw hK hc i pins s σ H E I hf st hg
    subst hP hw hK
    obtain ⟨⟨old, he⟩, h1⟩ := st
    obtain ⟨xs, sx, hx⟩ := hg
    obtain ⟨its, rv, a1, _⟩ := seq_of I sx
    have hl := rv.length
    obtain ⟨f0, f1, f2, f3, f4, f5⟩ := hf it (by simp)
    have hn : i = its.toArray.size := by simp; omega
    subst hn
    exact wpAny_pyNext_enum_endD (draws (by exact I.ok.hd hc) b it p hp its.toArray) he ⟨h1, a1⟩ fun h' eb => ⟨rfl, I.turned (t' := s.toks) (fun b o hb q => eb b o hb q) f0 f1 f3 f4 f5⟩
  self := fun A i s Q E st h => let ⟨⟨_, he⟩, _⟩ := st; wpAny_pyIter_enum he h
def iE (K : PySem.W.Frag) (ta : TA) : TI := fun σ H R => ta σ H fun vs H1 => ∃ b p xs, vs = [.ref p] ∧ Sq K b H1 p xs ∧ R (ItE K b p) H1
theorem pi_e {X : Cx} {e : Expr} {ta : TA} {ps pos tpos : Pos} {elts : List Expr} {kk : Nat} (hm : X.mg "enumerate" = none) (ha : PA X [e] ta) (hg : Gl X "enumerate" := by rfl) (hs : starEach [e] X.env = [(false, eval e X.env)] := by rfl) :
    PI X (.Tuple elts kk tpos) (.Call (.Name "enumerate" ps) [e] [] pos) (iE X.K ta) := by
  constructor
  intro pins s σ H R I h
  refine Call_ (ld_blt I hg hm boot_enumerate (PyProof.Rows.callWith_type1 (thn (ha.run pos pins s σ H _ I h) ?_) hs rfl))
  rintro us s1 ⟨vs, H1, I1, r1, b, p, xs, ex, sx, k⟩
  subst ex
  match us, r1 with
  | [_], .cons rfl .nil =>
    obtain ⟨its, rv, a1, lp⟩ := seq_of I1 sx
    refine enum1 (begins b p its.toArray) a1 ?_
    intro h' he o1 hk
    refine wpAny_pyIter_enum he ?_
    have I2 : Inv X pins σ H1 { s1 with heap := h' } := I1.kept (t' := s1.toks) hk
    refine ⟨s1.heap.objs.size + 1, [s1.heap.objs.size + 1, s1.heap.objs.size], _, _, H1, rfl, I2, turnE (b := b) (Nat.ne_of_lt lp) (Nat.succ_ne_self _) (Nat.ne_of_gt (Nat.lt_succ_of_lt lp)), ⟨⟨.none, he⟩, itObj_at o1⟩, ?_, k⟩
    intro c hcm
    have hle : s1.heap.objs.size ≤ c := by
      simp only [List.mem_cons, List.not_mem_nil, or_false] at hcm
      rcases hcm with rfl | rfl <;> first | exact Nat.le_refl _ | exact Nat.le_add_right _ _
    exact I1.fpOk hle (I1.hok.fresh hle)
end Zi
set_option Elab.async false
set_option linter.all false
set_option maxRecDepth 100000
set_option autoImplicit false
/-! ZI3: zip of two rows, its pairs kept by a name. -/
namespace Zi
open PySem PySem.Spec PyProof.Rows L2
abbrev ZipF (h : Heap) (z tI tO : Addr) (u : Value) (b : Bool) : Prop :=
  h.get? z = some { cls := .type "zip", dict := none, data := .fields #[u, .bool b, .bool false, .ref tI, .ref tO], slots := #[] }
def Lent (u : Value) : Prop := u = .none ∨ ∃ T : Addr, u = rawInt T
section
variable {prog : Program} {w : World} {A : Around} {E : Value → Shared → Prop} {s : Shared} {z tI tO i1 i2 : Addr} {fp1 fp2 : List Addr} {n1 n2 i : Nat} {P1 P2 : Nat → Value → Prop} {St1 St2 : Nat → Heap → Prop} {a1 a2 u : Value} {b : Bool}
theorem alive_any {a : Addr} {Q : Option Obj → Shared → Prop} (h : Q (s.heap.get? a) s) : wpAny (model prog w) A (loadIfAlive a) Q E s := fun _ _ _ => h
theorem is_free {Q : Bool → Shared → Prop} (hz : ZipF s.heap z tI tO u b) (hu : Lent u) (h1 : Q true s) (h2 : ∀ h', ZipF h' z tI tO u true → Heap.SameBut z s.heap h' → Q false { s with heap := h' }) :
    wpAny (model prog w) A (Builtin.SmallTypes.ownedTupleIsFree (.ref z)) Q E s := by
  unfold Builtin.SmallTypes.ownedTupleIsFree
  rcases hu with rfl | ⟨T, rfl⟩
  · exact wpAny_bind (wpAny_field hz rfl (x := .none) rfl (wpAny_pure h1))
  · refine wpAny_bind (wpAny_field hz rfl (x := rawInt T) rfl ?_)
    show wpAny (model prog w) A (loadIfAlive ((T : Int).toNat) >>= _) Q E s
    rw [Int.toNat_natCast]
    refine wpAny_bind (alive_any ?_)
    cases hT : s.heap.get? T with
    | none => exact wpAny_pure h1
    | some o =>
      simp only [Option.isNone_some, Bool.false_eq_true, if_false]
      refine wpAny_bind (wpAny_field hz rfl (x := .bool b) rfl ?_)
      cases b with
      | true =>
        have c : ¬ ((Value.bool true != Value.bool true) = true) := by decide
        rw [if_neg c]; exact wpAny_pure (h2 _ hz (Heap.SameBut.refl _ _))
      | false =>
        have c : (Value.bool false != Value.bool true) = true := by decide
        rw [if_pos c]; exact wpAny_bind (wpAny_setField_rec hz (by simp) fun h' q1 q2 => wpAny_pure (h2 h' q1 q2))
abbrev Hop (z tO i1 i2 : Addr) (h h' : Heap) : Prop := ∀ c o, c ≠ z → c ≠ tO → c ≠ i1 → c ≠ i2 → h.get? c = some o → h'.get? c = some o
theorem nx_item {Q : Value → Shared → Prop} (S : ZipSep2 z tI tO i1 i2 fp1 fp2) (D1 : Draws prog w A i1 fp1 n1 P1 St1) (D2 : Draws prog w A i2 fp2 n2 P2 St2)
    (hz : ZipF s.heap z tI tO u b) (hu : Lent u) (hI : IsTupOf2 s.heap tI (.ref i1) (.ref i2)) (hO : IsTupOf2 s.heap tO a1 a2) (t1 : St1 i s.heap) (t2 : St2 i s.heap) (l1 : i < n1) (l2 : i < n2)
    (hQ : ∀ x y h' tk u' b' c1 c2, P1 i x → P2 i y → ZipF h' z tI tO u' b' → Lent u' → IsTupOf2 h' tO c1 c2 → St1 (i + 1) h' → St2 (i + 1) h' → IsTupOf2 h' s.heap.objs.size x y → Hop z tO i1 i2 s.heap h' → Q (.ref s.heap.objs.size) { s with heap := h', toks := tk }) :
    wpAny (model prog w) A (Builtin.«zip.__next__» ⟨[.ref z], []⟩) (fun fin s' => ∃ v, fin = .done (.ret v) ∧ Q v s') E s := by
  obtain ⟨h0, gs, dr, tk, os⟩ := s
  have zI1 := S.zi1; have zI2 := S.zi2
  show wpAny (model prog w) A (field (.ref z) 2 >>= _) _ E _
  refine wpAny_bind (wpAny_field hz rfl (x := .bool false) rfl (show wpAny (model prog w) A (field (.ref z) 3 >>= _) _ E _ from ?_))
  refine wpAny_bind (wpAny_field hz rfl (x := .ref tI) rfl (wpAny_bind (wpAny_seqItems hI rfl (show wpAny (model prog w) A (Builtin.SmallTypes.ownedTupleIsFree (.ref z) >>= _) _ E _ from ?_))))
  refine wpAny_bind (is_free hz hu ?free fun h1 hz1 e1 => ?held)
  case free =>
    simp only [if_true]
    refine wpAny_bind (wpAny_rule (wpAny_bind (wpAny_field hz rfl (x := .ref tO) rfl (wpAny_bind (wpAny_setField_rec hz (by simp) fun h1 hz1 e1 => ?_)))))
    replace hz1 : ZipF h1 z tI tO .ellipsis b := hz1
    replace e1 : Heap.SameBut z h0 h1 := e1
    refine wpAny_bind ?_
    simp only [List.zipIdx_cons, List.zipIdx_nil, List.forIn_cons, List.forIn_nil]
    refine wpAny_bind (wpAny_bind (wpAny_onRaise (show wpAny (model prog w) A (Builtin.SmallTypes.nextOf (.ref i1) >>= _) _ _ ⟨h1, gs, dr, tk, os⟩ from ?_)))
    refine wpAny_bind (D1.item i _ _ _ l1 (D1.over t1 e1 S.zf1) fun x h2 tk2 hx u1 e2 => wpAny_pure ?_)
    replace e2 : Heap.SameBut i1 h1 h2 := e2
    have k2 : IsTupOf2 h2 tO a1 a2 := e2.extBut _ _ S.Ti1 (e1.extBut _ _ S.TOz hO)
    refine wpAny_bind (wpAny_seqItems (s := ⟨h2, gs, dr, tk2, os⟩) k2 rfl (wpAny_bind (updateSeq_IsTupOf2 (s := ⟨h2, gs, dr, tk2, os⟩) k2 fun h3 k3 e3 => wpAny_bind (wpAny_letGo (wpAny_pure ?_)))))
    replace k3 : IsTupOf2 h3 tO x a2 := k3
    replace e3 : Heap.SameBut tO h2 h3 := e3
    refine wpAny_bind (wpAny_bind (wpAny_onRaise (show wpAny (model prog w) A (Builtin.SmallTypes.nextOf (.ref i2) >>= _) _ _ ⟨h3, gs, dr, tk2, os⟩ from ?_)))
    refine wpAny_bind (D2.item i _ _ _ l2 (D2.over (D2.over (D2.over t2 e1 S.zf2) e2 S.sep1_2) e3 S.Tf2) fun y h4 tk4 hy u2 e4 => wpAny_pure ?_)
    replace e4 : Heap.SameBut i2 h3 h4 := e4
    have k4 : IsTupOf2 h4 tO x a2 := e4.extBut _ _ S.Ti2 k3
    refine wpAny_bind (wpAny_seqItems (s := ⟨h4, gs, dr, tk4, os⟩) k4 rfl (wpAny_bind (updateSeq_IsTupOf2 (s := ⟨h4, gs, dr, tk4, os⟩) k4 fun h5 k5 e5 => wpAny_bind (wpAny_letGo (wpAny_pure (wpAny_pure ?_))))))
    replace k5 : IsTupOf2 h5 tO x y := k5
    replace e5 : Heap.SameBut tO h4 h5 := e5
    refine wpAny_bind (wpAny_seqItems (s := ⟨h5, gs, dr, tk4, os⟩) k5 rfl (wpAny_bind (wpAny_newTuple ?_)))
    have sz : h5.objs.size = h0.objs.size := by rw [e5.1, e4.1, e3.1, e2.1, e1.1]
    have hz5 : ZipF h5 z tI tO .ellipsis b := e5.extBut _ _ S.TOz.symm (e4.extBut _ _ zI2 (e3.extBut _ _ S.TOz.symm (e2.extBut _ _ zI1 hz1)))
    have hop : Hop z tO i1 i2 h0 h5 := fun c o n0 n1 n2 n3 e => e5.extBut _ _ n1 (e4.extBut _ _ n3 (e3.extBut _ _ n1 (e2.extBut _ _ n2 (e1.extBut _ _ n0 e))))
    have j1 : St1 (i + 1) h5 := D1.over (D1.over (D1.over u1 e3 S.Tf1) e4 S.sep2_1) e5 S.Tf1
    have j2 : St2 (i + 1) h5 := D2.over u2 e5 S.Tf2
    have zlt : z < h5.objs.size := Heap.lt_size hz5
    show wpAny (model prog w) A (Builtin.SmallTypes.ownedTupleHandOut (.ref z) (.ref h5.objs.size) >>= _) _ _ ⟨h5.push { cls := .type "tuple", data := .seq #[x, y] }, gs, dr, tk4, os⟩
    refine wpAny_bind ?_
    unfold Builtin.SmallTypes.ownedTupleHandOut
    have hz6 : ZipF (h5.push { cls := .type "tuple", data := .seq #[x, y] }) z tI tO .ellipsis b := Heap.get?_push_of_some _ hz5
    refine wpAny_bind (wpAny_setField_rec hz6 (by simp) fun h7 hz7 e7 => ?_)
    replace hz7 : ZipF h7 z tI tO (rawInt h5.objs.size) b := hz7
    refine wpAny_setField_rec hz7 (by simp) fun h8 hz8 e8 => ?_
    replace hz8 : ZipF h8 z tI tO (rawInt h5.objs.size) false := hz8
    replace e7 : Heap.SameBut z (h5.push { cls := .type "tuple", data := .seq #[x, y] }) h7 := e7
    replace e8 : Heap.SameBut z h7 h8 := e8
    have up : ∀ c o, c ≠ z → h5.get? c = some o → h8.get? c = some o := fun c o n0 e => e8.extBut _ _ n0 (e7.extBut _ _ n0 (Heap.get?_push_of_some _ e))
    have k8 : IsTupOf2 h8 h5.objs.size x y := e8.extBut _ _ (Nat.ne_of_gt zlt) (e7.extBut _ _ (Nat.ne_of_gt zlt) (Heap.get?_push_size _ rfl))
    refine wpAny_pure ⟨_, rfl, ?_⟩
    show Q (.ref h5.objs.size) ⟨h8, gs, dr, tk4, os⟩
    rw [sz] at k8 ⊢
    exact hQ x y h8 tk4 _ _ _ _ hx hy hz8 (.inr ⟨_, rfl⟩) (up _ _ S.TOz k5) (D1.frame _ _ _ j1 fun c hc o e => up c o (fun q => S.zf1 (q ▸ hc)) e) (D2.frame _ _ _ j2 fun c hc o e => up c o (fun q => S.zf2 (q ▸ hc)) e) k8 fun c o n0 n1 n2 n3 e => up c o n0 (hop c o n0 n1 n2 n3 e)
  case held =>
    replace e1 : Heap.SameBut z h0 h1 := e1
    simp only [Bool.false_eq_true, if_false]
    refine wpAny_bind ?_
    rw [← Array.forIn_toList]
    simp only [List.forIn_cons, List.forIn_nil]
    refine wpAny_bind (wpAny_bind (wpAny_holding (show wpAny (model prog w) A (Builtin.SmallTypes.nextOf (.ref i1) >>= _) _ _ ⟨h1, gs, dr, tk, os⟩ from ?_)))
    refine wpAny_bind (D1.item i _ _ _ l1 (D1.over t1 e1 S.zf1) fun x h2 tk2 hx u1 e2 => wpAny_pure (wpAny_pure ?_))
    replace e2 : Heap.SameBut i1 h1 h2 := e2
    refine wpAny_bind (wpAny_bind (wpAny_holding (show wpAny (model prog w) A (Builtin.SmallTypes.nextOf (.ref i2) >>= _) _ _ ⟨h2, gs, dr, tk2, os⟩ from ?_)))
    refine wpAny_bind (D2.item i _ _ _ l2 (D2.over (D2.over t2 e1 S.zf2) e2 S.sep1_2) fun y h3 tk3 hy u2 e3 => wpAny_pure (wpAny_pure (wpAny_pure ?_)))
    replace e3 : Heap.SameBut i2 h2 h3 := e3
    show wpAny (model prog w) A (newTuple [x, y] >>= _) _ _ _
    refine wpAny_bind (wpAny_newTuple ?_)
    have sz : h3.objs.size = h0.objs.size := by rw [e3.1, e2.1, e1.1]
    have hz3 : ZipF h3 z tI tO u true := e3.extBut _ _ zI2 (e2.extBut _ _ zI1 hz1)
    have kO : IsTupOf2 h3 tO a1 a2 := e3.extBut _ _ S.Ti2 (e2.extBut _ _ S.Ti1 (e1.extBut _ _ S.TOz hO))
    have j1 : St1 (i + 1) h3 := D1.over u1 e3 S.sep2_1
    refine wpAny_pure ⟨_, rfl, ?_⟩
    show Q (.ref h3.objs.size) _
    have kp : IsTupOf2 (h3.push { cls := .type "tuple", data := .seq #[x, y] }) h3.objs.size x y := Heap.get?_push_size _ rfl
    rw [sz] at kp ⊢
    exact hQ x y _ tk3 u true a1 a2 hx hy (Heap.get?_push_of_some _ hz3) hu (Heap.get?_push_of_some _ kO) (D1.frame _ _ _ j1 fun c hc o e => Heap.get?_push_of_some _ e) (D2.frame _ _ _ u2 fun c hc o e => Heap.get?_push_of_some _ e) kp fun c o n0 n1 n2 n3 e => Heap.get?_push_of_some _ (e3.extBut _ _ n3 (e2.extBut _ _ n2 (e1.extBut _ _ n0 e)))
theorem nx_end {Q : Fin → Shared → Prop} (S : ZipSep2 z tI tO i1 i2 fp1 fp2) (D1 : Draws prog w A i1 fp1 n1 P1 St1) (D2 : Draws prog w A i2 fp2 n2 P2 St2)
    (hz : ZipF s.heap z tI tO u b) (hu : Lent u) (hI : IsTupOf2 s.heap tI (.ref i1) (.ref i2)) (hO : IsTupOf2 s.heap tO a1 a2) (t1 : St1 i s.heap) (t2 : St2 i s.heap) (l1 : i ≤ n1) (l2 : i ≤ n2) (hend : i = n1 ∨ i = n2)
    (hE : ∀ h' tk e, Hop z tO i1 i2 s.heap h' → (∃ o, h'.get? e = some o ∧ o.cls = .type "StopIteration") → E (.ref e) { s with heap := h', toks := tk }) :
    wpAny (model prog w) A (Builtin.«zip.__next__» ⟨[.ref z], []⟩) Q E s := by
  obtain ⟨h0, gs, dr, tk, os⟩ := s
  have zI1 := S.zi1; have zI2 := S.zi2
  show wpAny (model prog w) A (field (.ref z) 2 >>= _) _ E _
  refine wpAny_bind (wpAny_field hz rfl (x := .bool false) rfl (show wpAny (model prog w) A (field (.ref z) 3 >>= _) _ E _ from ?_))
  refine wpAny_bind (wpAny_field hz rfl (x := .ref tI) rfl (wpAny_bind (wpAny_seqItems hI rfl (show wpAny (model prog w) A (Builtin.SmallTypes.ownedTupleIsFree (.ref z) >>= _) _ E _ from ?_))))
  refine wpAny_bind (is_free hz hu ?free fun h1 hz1 e1 => ?held)
  case free =>
    simp only [if_true]
    refine wpAny_bind (wpAny_rule (wpAny_bind (wpAny_field hz rfl (x := .ref tO) rfl (wpAny_bind (wpAny_setField_rec hz (by simp) fun h1 hz1 e1 => ?_)))))
    replace hz1 : ZipF h1 z tI tO .ellipsis b := hz1
    replace e1 : Heap.SameBut z h0 h1 := e1
    refine wpAny_bind ?_
    simp only [List.zipIdx_cons, List.zipIdx_nil, List.forIn_cons, List.forIn_nil]
    refine wpAny_bind (wpAny_bind (wpAny_onRaise (show wpAny (model prog w) A (Builtin.SmallTypes.nextOf (.ref i1) >>= _) _ _ ⟨h1, gs, dr, tk, os⟩ from ?_)))
    by_cases c1 : i < n1
    · refine wpAny_bind (D1.item i _ _ _ c1 (D1.over t1 e1 S.zf1) fun x h2 tk2 hx u1 e2 => wpAny_pure ?_)
      replace e2 : Heap.SameBut i1 h1 h2 := e2
      have k2 : IsTupOf2 h2 tO a1 a2 := e2.extBut _ _ S.Ti1 (e1.extBut _ _ S.TOz hO)
      refine wpAny_bind (wpAny_seqItems (s := ⟨h2, gs, dr, tk2, os⟩) k2 rfl (wpAny_bind (updateSeq_IsTupOf2 (s := ⟨h2, gs, dr, tk2, os⟩) k2 fun h3 k3 e3 => wpAny_bind (wpAny_letGo (wpAny_pure ?_)))))
      replace k3 : IsTupOf2 h3 tO x a2 := k3
      replace e3 : Heap.SameBut tO h2 h3 := e3
      have c2 : n2 = i := by omega
      refine wpAny_bind (wpAny_bind (wpAny_onRaise (show wpAny (model prog w) A (Builtin.SmallTypes.nextOf (.ref i2) >>= _) _ _ ⟨h3, gs, dr, tk2, os⟩ from ?_)))
      refine wpAny_bind (D2.done ⟨h3, gs, dr, tk2, os⟩ _ _ (by rw [c2]; exact D2.over (D2.over (D2.over t2 e1 S.zf2) e2 S.sep1_2) e3 S.Tf2) fun h4 er e4 he => ?_)
      replace e4 : Heap.ExtBut i2 h3 h4 := e4
      obtain ⟨oe, ho, hc⟩ := he
      replace ho : h4.get? er = some oe := ho
      have hz4 : ZipF h4 z tI tO .ellipsis b := e4 _ _ zI2 (e3.extBut _ _ S.TOz.symm (e2.extBut _ _ zI1 hz1))
      have ne : er ≠ z := fun q => by subst q; rw [hz4] at ho; cases ho; simp at hc
      refine wpAny_setField_rec (s := ⟨h4, gs, dr, tk2, os⟩) hz4 (by simp) fun h5 _ e5 => ?_
      replace e5 : Heap.SameBut z h4 h5 := e5
      exact hE h5 tk2 er (fun c o n0 n1 n2 n3 q => e5.extBut _ _ n0 (e4 _ _ n3 (e3.extBut _ _ n1 (e2.extBut _ _ n2 (e1.extBut _ _ n0 q))))) ⟨oe, e5.extBut _ _ ne ho, hc⟩
    · have c2 : n1 = i := by omega
      refine wpAny_bind (D1.done ⟨h1, gs, dr, tk, os⟩ _ _ (by rw [c2]; exact D1.over t1 e1 S.zf1) fun h4 er e4 he => ?_)
      replace e4 : Heap.ExtBut i1 h1 h4 := e4
      obtain ⟨oe, ho, hc⟩ := he
      replace ho : h4.get? er = some oe := ho
      have hz4 : ZipF h4 z tI tO .ellipsis b := e4 _ _ zI1 hz1
      have ne : er ≠ z := fun q => by subst q; rw [hz4] at ho; cases ho; simp at hc
      refine wpAny_setField_rec (s := ⟨h4, gs, dr, tk, os⟩) hz4 (by simp) fun h5 _ e5 => ?_
      replace e5 : Heap.SameBut z h4 h5 := e5
      exact hE h5 tk er (fun c o n0 n1 n2 n3 q => e5.extBut _ _ n0 (e4 _ _ n2 (e1.extBut _ _ n0 q))) ⟨oe, e5.extBut _ _ ne ho, hc⟩
  case held =>
    replace e1 : Heap.SameBut z h0 h1 := e1
    simp only [Bool.false_eq_true, if_false]
    refine wpAny_bind ?_
    rw [← Array.forIn_toList]
    simp only [List.forIn_cons, List.forIn_nil]
    refine wpAny_bind (wpAny_bind (wpAny_holding (show wpAny (model prog w) A (Builtin.SmallTypes.nextOf (.ref i1) >>= _) _ _ ⟨h1, gs, dr, tk, os⟩ from ?_)))
    by_cases c1 : i < n1
    · refine wpAny_bind (D1.item i _ _ _ c1 (D1.over t1 e1 S.zf1) fun x h2 tk2 hx u1 e2 => wpAny_pure (wpAny_pure ?_))
      replace e2 : Heap.SameBut i1 h1 h2 := e2
      have c2 : n2 = i := by omega
      refine wpAny_bind (wpAny_bind (wpAny_holding (show wpAny (model prog w) A (Builtin.SmallTypes.nextOf (.ref i2) >>= _) _ _ ⟨h2, gs, dr, tk2, os⟩ from ?_)))
      refine wpAny_bind (D2.done ⟨h2, gs, dr, tk2, os⟩ _ _ (by rw [c2]; exact D2.over (D2.over t2 e1 S.zf2) e2 S.sep1_2) fun h4 er e4 he => ?_)
      replace e4 : Heap.ExtBut i2 h2 h4 := e4
      exact hE h4 tk2 er (fun c o n0 n1 n2 n3 q => e4 _ _ n3 (e2.extBut _ _ n2 (e1.extBut _ _ n0 q))) he
    · have c2 : n1 = i := by omega
      refine wpAny_bind (D1.done ⟨h1, gs, dr, tk, os⟩ _ _ (by rw [c2]; exact D1.over t1 e1 S.zf1) fun h4 er e4 he => ?_)
      replace e4 : Heap.ExtBut i1 h1 h4 := e4
      exact hE h4 tk er (fun c o n0 n1 n2 n3 q => e4 _ _ n2 (e1.extBut _ _ n0 q)) he
end
end Zi
namespace Zi
open PySem PySem.Spec PyProof.Rows L2
section
variable {prog : Program} {w : World} {A : Around} {E : Value → Shared → Prop} {s : Shared} {z tI tO i1 i2 : Addr} {fp1 fp2 : List Addr} {n1 n2 i : Nat} {P1 P2 : Nat → Value → Prop} {St1 St2 : Nat → Heap → Prop} {a1 a2 u : Value} {b : Bool}
theorem py_self {Q : Value → Shared → Prop} (hz : ZipF s.heap z tI tO u b) (hQ : Q (.ref z) s) : wpAny (model prog w) A (pyIter (.ref z)) Q E s := by
  have ty : s.TypeIs (.ref z) "zip" := ⟨_, hz, rfl⟩
  exact wpAny_pyIter_slot ty F.slot_zip_iter (wpAny_call_entry F.slot_zip_iter ty F.entry_zip_iter (show wpAny (model prog w) _ (ret (.ref z)) _ _ s from wpAny_pure ⟨_, rfl, "zip", _, ty, F.slot_zip_next.lookup, hQ⟩) (F.args_zip_iter_1 _))
end
end Zi
set_option Elab.async false
set_option linter.all false
set_option maxRecDepth 100000
/-! Z0: values as trees, how they stand in the abstract heap, who owns what. -/
namespace Zm
open PySem PySem.Spec PyProof.Rows L2
abbrev Cnt := Addr → Nat
def cp (p : Addr) : Cnt := fun x => if x = p then 1 else 0
theorem cp_same {p : Addr} : cp p p = 1 := if_pos rfl
def c0 : Cnt := fun _ => 0
theorem cp_ne {p x : Addr} (h : x ≠ p) : cp p x = 0 := if_neg h
/-- values as trees. lst true: nobody else holds this list; lst false: it is never changed from here on; box n: the n-th list of the store -/
inductive D where
  | non | bl (b : Bool) | int (i : Int) | str (x : Str)
  | tup (xs : List D) | lst (o : Bool) (xs : List D) | dic (o t : Bool) (ks vs : List D)
  | box (n : Nat) | fn (x : Str) | ty (x : String) | ro (ns : List Int)
  | exc (c : Str) (m : Option Int)
  | dil (o : Bool) (ks vs : List D)
  deriving Inhabited
abbrev Sto := List (List D)
abbrev Env := List (Option D)
mutual
/-- all lists within are frozen -/
@[simp] def fz : D → D
  | .tup xs => .tup (fzs xs)
  | .lst _ xs => .lst false (fzs xs)
  | .dic _ t ks vs => .dic false t ks vs
  | .dil _ ks vs => .dil false ks vs
  | .non => .non | .bl b => .bl b | .int i => .int i | .str x => .str x | .box n => .box n | .fn x => .fn x | .ty x => .ty x | .exc c m => .exc c m | .ro ns => .ro ns
@[simp] def fzs : List D → List D
  | [] => []
  | x :: xs => fz x :: fzs xs
end
mutual
/-- no frozen list within -/
@[simp] def noF : D → Bool
  | .tup xs => noFs xs
  | .lst o xs => o && noFs xs
  | .dic o _ _ _ => o
  | .dil o _ vs => o && noFs vs
  | .non => true | .bl _ => true | .int _ => true | .str _ => true | .box _ => true | .fn _ => true | .ty _ => true | .exc _ _ => true | .ro _ => true
@[simp] def noFs : List D → Bool
  | [] => true
  | x :: xs => noF x && noFs xs
end
mutual
/-- no list at all within (but boxes) -/
@[simp] def plain : D → Bool
  | .tup xs => plains xs
  | .lst _ _ => false
  | .dic _ _ _ _ => false
  | .dil _ _ _ => false
  | .non => true | .bl _ => true | .int _ => true | .str _ => true | .box _ => true | .fn _ => true | .ty _ => true | .exc _ _ => true | .ro _ => true
@[simp] def plains : List D → Bool
  | [] => true
  | x :: xs => plain x && plains xs
end
mutual
def pd : D → Option PyData
  | .non => some .none
  | .bl b => some (.bool b)
  | .int i => some (.int i)
  | .str x => some (.str x)
  | .tup xs => (pds xs).map .tuple
  | .lst _ xs => (pds xs).map .list
  | .ro ns => some (.list (ns.map .int))
  | .dic _ _ _ _ => none | .dil _ _ _ => none | .box _ => none | .fn _ => none | .ty _ => none | .exc _ _ => none
def pds : List D → Option (List PyData)
  | [] => some []
  | x :: xs => match pd x, pds xs with
    | some y, some ys => some (y :: ys)
    | _, _ => none
end
theorem fzs_eq : ∀ xs : List D, fzs xs = xs.map fz
  | [] => rfl
  | x :: xs => by rw [fzs, fzs_eq xs]; rfl
theorem noFs_iff : ∀ {xs : List D}, noFs xs = true ↔ ∀ x ∈ xs, noF x = true
  | [] => by simp [noFs]
  | x :: xs => by simp [noFs, noFs_iff (xs := xs)]
theorem plains_iff : ∀ {xs : List D}, plains xs = true ↔ ∀ x ∈ xs, plain x = true
  | [] => by simp [plains]
  | x :: xs => by simp [plains, plains_iff (xs := xs)]
section
variable (K : PySem.W.Frag) (mg : Str → Option Value) (H : Hp) (ρ : List Addr)
/-- a list of the written part -/
def SqK (K : PySem.W.Frag) (a : Addr) (xs : List V) : Prop :=
  ∃ (o : Obj) (its : Array Value) (n : Nat), K.lookup a = some o ∧ o.cls = .type "list" ∧ o.dict = none ∧ o.data = .seq its n ∧ its.size ≤ sizeLine ∧ Vals xs its.toList
/-- a list that is read only: known to the object, or of the written part -/
def SqR (K : PySem.W.Frag) (H : Hp) (a : Addr) (xs : List V) : Prop := (∃ o, H a = some (.frz o (.lst xs))) ∨ SqK K a xs
def kD : Key → D
  | .inl i => .int i
  | .inr z => .str z
def ktD (k : List Key) : D := .tup (k.map kD)
/-- a dict; t: its keys are tuples -/
def DicV (t : Bool) (ks : List D) (ws : List V) (u : HO) : Prop := match t with
  | false => ∃ kvs : List (Key × V), u = .dK kvs ∧ ks = kvs.map (fun z => kD z.1) ∧ ws = kvs.map (·.2)
  | true => ∃ kvs : List (List Key × V), u = .dT kvs ∧ ks = kvs.map (fun z => ktD z.1) ∧ ws = kvs.map (·.2)
/-- .. that may be written; .. that is read (locked, may be) -/
def DicAt (H : Hp) (t : Bool) (p : Addr) (ks : List D) (ws : List V) : Prop := ∃ u, H p = some u ∧ DicV t ks ws u
def DicRd (H : Hp) (t : Bool) (p : Addr) (ks : List D) (ws : List V) : Prop := ∃ u, Rd H p u ∧ DicV t ks ws u
/-- an exception's object, of the class at C -/
def ExO (p C : Addr) (h : Heap) : Prop := ∃ (o : Obj) (vs : Array Value), h.get? p = some o ∧ o.cls = .ref C ∧ o.dict = none ∧ o.data = .fields vs
/-- an exception: one that is handled (by its address), one that is kept -/
def XcAt (mg : Str → Option Value) (H : Hp) (c : Str) (m : Option Int) (p : Addr) : Prop := match m with
  | some a => (p : Int) = a
  | none => ∃ C, mg c = some (.ref C) ∧ H p = some (.ext (ExO p C))
mutual
/-- the tree d stands at v: A counts the lists that are owned in it, F those that are frozen -/
inductive Rep : D → V → Cnt → Cnt → Prop
  | non {A F : Cnt} : (∀ x, A x = 0) → (∀ x, F x = 0) → Rep .non .non A F
  | bl {b : Bool} {A F : Cnt} : (∀ x, A x = 0) → (∀ x, F x = 0) → Rep (.bl b) (.bl b) A F
  | int {i : Int} {A F : Cnt} : (∀ x, A x = 0) → (∀ x, F x = 0) → Rep (.int i) (.int i) A F
  | str {z : Str} {A F : Cnt} : (∀ x, A x = 0) → (∀ x, F x = 0) → Rep (.str z) (.str z) A F
  | tup {p : Addr} {ds : List D} {vs : List V} {A F : Cnt} : H p = some (.tup vs) → Reps ds vs A F → Rep (.tup ds) (.ref p) A F
  | own {p : Addr} {ds : List D} {vs : List V} {a A F : Cnt} : H p = some (.lst vs) → p ∉ ρ → Reps ds vs a F → (∀ x, A x = cp p x + a x) → Rep (.lst true ds) (.ref p) A F
  | frz {p : Addr} {ds : List D} {vs : List V} {f A F : Cnt} : H p = some (.lst vs) → p ∉ ρ → Reps ds vs A f → (∀ x, F x = cp p x + f x) → Rep (.lst false ds) (.ref p) A F
  | ro {p : Addr} {ns : List Int} {A F : Cnt} : SqR K H p (ns.map V.int) → (∀ x, A x = 0) → (∀ x, F x = 0) → Rep (.ro ns) (.ref p) A F
  | box {n : Nat} {p : Addr} {A F : Cnt} : ρ[n]? = some p → (∀ x, A x = 0) → (∀ x, F x = 0) → Rep (.box n) (.ref p) A F
  | fn {x : Str} {p : Addr} {A F : Cnt} : mg x = some (.ref p) → PySem.W.keepIn K (.ref p) = true → (∀ x, A x = 0) → (∀ x, F x = 0) → Rep (.fn x) (.ref p) A F
  | ty {x : String} {A F : Cnt} : (∀ x, A x = 0) → (∀ x, F x = 0) → Rep (.ty x) (.ty x) A F
  | exc {c : Str} {m : Option Int} {p : Addr} {A F : Cnt} : XcAt mg H c m p → (∀ x, A x = 0) → (∀ x, F x = 0) → Rep (.exc c m) (.ref p) A F
  | dicO {t : Bool} {p : Addr} {ks vs : List D} {ws : List V} {A F : Cnt} : DicAt H t p ks ws → p ∉ ρ → plains vs = true → Reps vs ws c0 c0 → (∀ x, A x = cp p x) → (∀ x, F x = 0) → Rep (.dic true t ks vs) (.ref p) A F
  | dicF {t : Bool} {p : Addr} {ks vs : List D} {ws : List V} {A F : Cnt} : DicRd H t p ks ws → p ∉ ρ → plains vs = true → Reps vs ws c0 c0 → (∀ x, A x = 0) → (∀ x, F x = cp p x) → Rep (.dic false t ks vs) (.ref p) A F
  | dilO {p : Addr} {ks vs : List D} {ws : List V} {f A F : Cnt} : DicAt H true p ks ws → p ∉ ρ → fzs vs = vs → Reps vs ws c0 f → (∀ x, A x = cp p x) → (∀ x, F x = f x) → Rep (.dil true ks vs) (.ref p) A F
  | dilF {p : Addr} {ks vs : List D} {ws : List V} {f A F : Cnt} : DicRd H true p ks ws → p ∉ ρ → fzs vs = vs → Reps vs ws c0 f → (∀ x, A x = 0) → (∀ x, F x = cp p x + f x) → Rep (.dil false ks vs) (.ref p) A F
inductive Reps : List D → List V → Cnt → Cnt → Prop
  | nil {A F : Cnt} : (∀ x, A x = 0) → (∀ x, F x = 0) → Reps [] [] A F
  | cons {d : D} {ds : List D} {v : V} {vs : List V} {a f a' f' A F : Cnt} : Rep d v a f → Reps ds vs a' f' → (∀ x, A x = a x + a' x) → (∀ x, F x = f x + f' x) → Reps (d :: ds) (v :: vs) A F
end
end
section
variable {K : PySem.W.Frag} {mg : Str → Option Value} {H H' : Hp} {ρ ρ' : List Addr} {d : D} {ds es : List D} {v : V} {vs ws : List V} {A F A' F' a f : Cnt}
theorem Rep.cong : Rep K mg H ρ d v A F → (∀ x, A' x = A x) → (∀ x, F' x = F x) → Rep K mg H ρ d v A' F' := by
  intro h hA hF
  have : A' = A := funext hA
  have : F' = F := funext hF
  subst_vars; exact h
theorem Reps.cong : Reps K mg H ρ ds vs A F → (∀ x, A' x = A x) → (∀ x, F' x = F x) → Reps K mg H ρ ds vs A' F' := by
  intro h hA hF
  have : A' = A := funext hA
  have : F' = F := funext hF
  subst_vars; exact h
theorem Reps.length : ∀ {ds : List D} {vs : List V} {A F : Cnt}, Reps K mg H ρ ds vs A F → ds.length = vs.length
  | _, _, _, _, .nil _ _ => rfl
  | _, _, _, _, .cons _ t _ _ => congrArg (· + 1) t.length
/-- what may be written: lists, dicts -/
def Mu : HO → Prop
  | .lst _ => True
  | .dK _ => True
  | .dT _ => True
  | _ => False
/-- what may change from H to H': M, and the boxes -/
structure Fr (M : Cnt) (H H' : Hp) (ρ ρ' : List Addr) : Prop where
  keep : ∀ x o, H x = some o → H' x = some o ∨ (Mu o ∧ (x ∈ ρ ∨ 1 ≤ M x))
  there : ∀ x, H' x = none → H x = none
  ext : ∃ r, ρ' = ρ ++ r ∧ ∀ p ∈ r, H p = none
theorem Fr.refl {M : Cnt} : Fr M H H ρ ρ := ⟨fun _ _ h => .inl h, fun _ h => h, [], by simp, by simp⟩
theorem Fr.mono {M M' : Cnt} (h : Fr M H H' ρ ρ') (hm : ∀ x, 1 ≤ M x → 1 ≤ M' x ∨ H x = none) : Fr M' H H' ρ ρ' := by
  refine ⟨fun x o e => ?_, h.there, h.ext⟩
  rcases h.keep x o e with z | ⟨l, z | z⟩
  · exact .inl z
  · exact .inr ⟨l, .inl z⟩
  · rcases hm x z with y | y
    · exact .inr ⟨l, .inr y⟩
    · rw [y] at e; cases e
theorem Fr.trans {M M1 : Cnt} {H1 : Hp} {ρ1 : List Addr} (h : Fr M H H1 ρ ρ1) (h1 : Fr M1 H1 H' ρ1 ρ') (hm : ∀ x, 1 ≤ M1 x → 1 ≤ M x ∨ H x = none) : Fr M H H' ρ ρ' := by
  obtain ⟨r, e, n⟩ := h.ext
  obtain ⟨r1, e1, n1⟩ := h1.ext
  refine ⟨fun x o q => ?_, fun x q => h.there x (h1.there x q), r ++ r1, by rw [e1, e, List.append_assoc], fun p hp => ?_⟩
  · rcases h.keep x o q with z | z
    · rcases h1.keep x o z with y | ⟨l, y⟩
      · exact .inl y
      · rcases y with y | y
        · rw [e] at y
          rcases List.mem_append.mp y with y | y
          · exact .inr ⟨l, .inl y⟩
          · have := n x y
            rw [q] at this; cases this
        · rcases hm x y with y | y
          · exact .inr ⟨l, .inr y⟩
          · rw [q] at y; cases y
    · exact .inr z
  · rcases List.mem_append.mp hp with z | z
    · exact n p z
    · exact h.there p (n1 p z)
theorem Fr.mem (h : Fr A H H' ρ ρ') {x : Addr} (hx : x ∈ ρ) : x ∈ ρ' := by
  obtain ⟨r, e, _⟩ := h.ext
  rw [e]; exact List.mem_append_left _ hx
theorem Fr.get (h : Fr A H H' ρ ρ') {n : Nat} {p : Addr} (hx : ρ[n]? = some p) : ρ'[n]? = some p := by
  obtain ⟨r, e, _⟩ := h.ext
  obtain ⟨hl, _⟩ := List.getElem?_eq_some_iff.mp hx
  rw [e, List.getElem?_append_left hl]; exact hx
theorem Fr.nmem (h : Fr A H H' ρ ρ') {x : Addr} {o : HO} (e : H x = some o) (hx : x ∉ ρ) : x ∉ ρ' := by
  obtain ⟨r, q, n⟩ := h.ext
  rw [q]; intro z
  rcases List.mem_append.mp z with z | z
  · exact hx z
  · have := n x z
    rw [e] at this; cases this
theorem Fr.rdT {M : Cnt} (h : Fr M H H' ρ ρ') {p : Addr} (e : H p = some (.tup vs)) : H' p = some (.tup vs) := by
  rcases h.keep _ _ e with z | ⟨z, _⟩
  · exact z
  · exact z.elim
theorem Fr.rdX {M : Cnt} (h : Fr M H H' ρ ρ') {mg : Str → Option Value} {c : Str} {m : Option Int} {p : Addr} (e : XcAt mg H c m p) : XcAt mg H' c m p := by
  cases m with
  | some a => exact e
  | none =>
    obtain ⟨C, e1, e2⟩ := e
    rcases h.keep _ _ e2 with z | ⟨z, _⟩
    · exact ⟨C, e1, z⟩
    · exact z.elim
theorem Fr.rdR {M : Cnt} (h : Fr M H H' ρ ρ') {p : Addr} (e : SqR K H p vs) : SqR K H' p vs := by
  rcases e with ⟨o, e⟩ | e
  · rcases h.keep _ _ e with z | ⟨z, _⟩
    · exact .inl ⟨o, z⟩
    · exact z.elim
  · exact .inr e
theorem SqR.L {p : Addr} (h : SqR K H p vs) : SqL K H p vs := by
  rcases h with ⟨o, h⟩ | h
  · exact .inl (.inr ⟨o, h⟩)
  · exact .inr h
theorem DicV.mu {t : Bool} {ks : List D} {ws : List V} {u : HO} (h : DicV t ks ws u) : Mu u := by
  cases t with
  | false => obtain ⟨kvs, rfl, _⟩ := h; exact trivial
  | true => obtain ⟨kvs, rfl, _⟩ := h; exact trivial
theorem DicAt.sm {t : Bool} {p : Addr} {ks : List D} {ws : List V} (h : DicAt H t p ks ws) : ∃ o, H p = some o := let ⟨u, e, _⟩ := h; ⟨u, e⟩
theorem DicAt.rd {t : Bool} {p : Addr} {ks : List D} {ws : List V} (h : DicAt H t p ks ws) : DicRd H t p ks ws := let ⟨u, e, q⟩ := h; ⟨u, .inl e, q⟩
theorem DicRd.sm {t : Bool} {p : Addr} {ks : List D} {ws : List V} (h : DicRd H t p ks ws) : ∃ o, H p = some o := by
  obtain ⟨u, e | ⟨o, e⟩, _⟩ := h
  · exact ⟨_, e⟩
  · exact ⟨_, e⟩
theorem Fr.at_ {M : Cnt} (fr : Fr M H H' ρ ρ') {p : Addr} {o : HO} (e : H p = some o) (hp : p ∉ ρ) (hM : M p = 0) : H' p = some o ∧ p ∉ ρ' := by
  refine ⟨?_, fr.nmem e hp⟩
  rcases fr.keep _ _ e with z | ⟨_, z | z⟩
  · exact z
  · exact (hp z).elim
  · omega
theorem DicAt.frm {M : Cnt} (fr : Fr M H H' ρ ρ') {t : Bool} {p : Addr} {ks : List D} {ws : List V} (h : DicAt H t p ks ws) (hp : p ∉ ρ) (hM : M p = 0) : DicAt H' t p ks ws ∧ p ∉ ρ' := by
  obtain ⟨u, e, q⟩ := h
  have := fr.at_ e hp hM
  exact ⟨⟨u, this.1, q⟩, this.2⟩
theorem DicRd.frm {M : Cnt} (fr : Fr M H H' ρ ρ') {t : Bool} {p : Addr} {ks : List D} {ws : List V} (h : DicRd H t p ks ws) (hp : p ∉ ρ) (hM : M p = 0) : DicRd H' t p ks ws ∧ p ∉ ρ' := by
  obtain ⟨u, e | ⟨o, e⟩, q⟩ := h
  · have := fr.at_ e hp hM
    exact ⟨⟨u, .inl this.1, q⟩, this.2⟩
  · have := fr.at_ e hp hM
    exact ⟨⟨u, .inr ⟨o, this.1⟩, q⟩, this.2⟩
mutual
/-- a tree of which nothing is changed stands on -/
theorem Rep.frame {M : Cnt} (fr : Fr M H H' ρ ρ') : ∀ {d : D} {v : V} {A F : Cnt}, Rep K mg H ρ d v A F → (∀ x, 1 ≤ M x → A x = 0 ∧ F x = 0) → Rep K mg H' ρ' d v A F
  | _, _, _, _, .non a f, _ => .non a f
  | _, _, _, _, .bl a f, _ => .bl a f
  | _, _, _, _, .int a f, _ => .int a f
  | _, _, _, _, .str a f, _ => .str a f
  | _, _, _, _, .tup h t, hm => .tup (fr.rdT h) (Reps.frame fr t hm)
  | _, _, A, F, .own (p := p) h hp t e, hm => by
    have hM : M p = 0 := by
      cases z : M p with
      | zero => rfl
      | succ k => have := (hm p (by omega)).1; rw [e p, cp_same] at this; omega
    rcases fr.keep _ _ h with z | ⟨_, z | z⟩
    · exact .own z (fr.nmem h hp) (Reps.frame fr t fun x hx => by have := hm x hx; rw [e x] at this; omega) e
    · exact (hp z).elim
    · omega
  | _, _, A, F, .frz (p := p) h hp t e, hm => by
    have hM : M p = 0 := by
      cases z : M p with
      | zero => rfl
      | succ k => have := (hm p (by omega)).2; rw [e p, cp_same] at this; omega
    rcases fr.keep _ _ h with z | ⟨_, z | z⟩
    · exact .frz z (fr.nmem h hp) (Reps.frame fr t fun x hx => by have := hm x hx; rw [e x] at this; omega) e
    · exact (hp z).elim
    · omega
  | _, _, _, _, .ro h a f, _ => .ro (fr.rdR h) a f
  | _, _, _, _, .box h a f, _ => .box (fr.get h) a f
  | _, _, _, _, .fn h k a f, _ => .fn h k a f
  | _, _, _, _, .ty a f, _ => .ty a f
  | _, _, _, _, .exc h a f, _ => .exc (fr.rdX h) a f
  | _, _, A, F, .dicO (p := p) h hp pl t e1 e2, hm => by
    have hM : M p = 0 := by
      cases z : M p with
      | zero => rfl
      | succ k => have := (hm p (by omega)).1; rw [e1 p, cp_same] at this; omega
    exact .dicO (h.frm fr hp hM).1 (h.frm fr hp hM).2 pl (Reps.frame fr t fun x _ => ⟨rfl, rfl⟩) e1 e2
  | _, _, A, F, .dicF (p := p) h hp pl t e1 e2, hm => by
    have hM : M p = 0 := by
      cases z : M p with
      | zero => rfl
      | succ k => have := (hm p (by omega)).2; rw [e2 p, cp_same] at this; omega
    exact .dicF (h.frm fr hp hM).1 (h.frm fr hp hM).2 pl (Reps.frame fr t fun x _ => ⟨rfl, rfl⟩) e1 e2
  | _, _, A, F, .dilO (p := p) h hp pl t e1 e2, hm => by
    have hM : M p = 0 := by
      cases z : M p with
      | zero => rfl
      | succ k => have := (hm p (by omega)).1; rw [e1 p, cp_same] at this; omega
    exact .dilO (h.frm fr hp hM).1 (h.frm fr hp hM).2 pl (Reps.frame fr t fun x hx => ⟨rfl, by have := hm x hx; rw [e2 x] at this; omega⟩) e1 e2
  | _, _, A, F, .dilF (p := p) h hp pl t e1 e2, hm => by
    have hM : M p = 0 := by
      cases z : M p with
      | zero => rfl
      | succ k => have := (hm p (by omega)).2; rw [e2 p, cp_same] at this; omega
    exact .dilF (h.frm fr hp hM).1 (h.frm fr hp hM).2 pl (Reps.frame fr t fun x hx => ⟨rfl, by have := hm x hx; rw [e2 x] at this; omega⟩) e1 e2
theorem Reps.frame {M : Cnt} (fr : Fr M H H' ρ ρ') : ∀ {ds : List D} {vs : List V} {A F : Cnt}, Reps K mg H ρ ds vs A F → (∀ x, 1 ≤ M x → A x = 0 ∧ F x = 0) → Reps K mg H' ρ' ds vs A F
  | _, _, _, _, .nil a f, _ => .nil a f
  | _, _, _, _, .cons h t e1 e2, hm => .cons (Rep.frame fr h fun x hx => by have := hm x hx; rw [e1, e2] at this; omega) (Reps.frame fr t fun x hx => by have := hm x hx; rw [e1, e2] at this; omega) e1 e2
end
mutual
/-- what is counted is there -/
theorem Rep.there : ∀ {d : D} {v : V} {A F : Cnt}, Rep K mg H ρ d v A F → ∀ x, 1 ≤ A x + F x → (∃ o, H x = some o) ∧ x ∉ ρ
  | _, _, _, _, .non a f, x, hx => by rw [a, f] at hx; omega
  | _, _, _, _, .bl a f, x, hx => by rw [a, f] at hx; omega
  | _, _, _, _, .int a f, x, hx => by rw [a, f] at hx; omega
  | _, _, _, _, .str a f, x, hx => by rw [a, f] at hx; omega
  | _, _, _, _, .tup _ t, x, hx => Reps.there t x hx
  | _, _, _, _, .own (p := p) h hp t e, x, hx => by
    by_cases q : x = p
    · subst q; exact ⟨⟨_, h⟩, hp⟩
    · rw [e, cp_ne q] at hx
      exact Reps.there t x (by omega)
  | _, _, _, _, .frz (p := p) h hp t e, x, hx => by
    by_cases q : x = p
    · subst q; exact ⟨⟨_, h⟩, hp⟩
    · rw [e, cp_ne q] at hx
      exact Reps.there t x (by omega)
  | _, _, _, _, .ro _ a f, x, hx => by rw [a, f] at hx; omega
  | _, _, _, _, .box _ a f, x, hx => by rw [a, f] at hx; omega
  | _, _, _, _, .fn _ _ a f, x, hx => by rw [a, f] at hx; omega
  | _, _, _, _, .ty a f, x, hx => by rw [a, f] at hx; omega
  | _, _, _, _, .exc _ a f, x, hx => by rw [a, f] at hx; omega
  | _, _, _, _, .dicO (p := p) h hp pl t e1 e2, x, hx => by
    by_cases q : x = p
    · subst q; exact ⟨h.sm, hp⟩
    · rw [e1, e2, cp_ne q] at hx; omega
  | _, _, _, _, .dicF (p := p) h hp pl t e1 e2, x, hx => by
    by_cases q : x = p
    · subst q; exact ⟨h.sm, hp⟩
    · rw [e1, e2, cp_ne q] at hx; omega
  | _, _, _, _, .dilO (p := p) h hp pl t e1 e2, x, hx => by
    by_cases q : x = p
    · subst q; exact ⟨h.sm, hp⟩
    · rw [e1, e2, cp_ne q] at hx
      exact Reps.there t x (by omega)
  | _, _, _, _, .dilF (p := p) h hp pl t e1 e2, x, hx => by
    by_cases q : x = p
    · subst q; exact ⟨h.sm, hp⟩
    · rw [e1, e2, cp_ne q] at hx
      exact Reps.there t x (by omega)
theorem Reps.there : ∀ {ds : List D} {vs : List V} {A F : Cnt}, Reps K mg H ρ ds vs A F → ∀ x, 1 ≤ A x + F x → (∃ o, H x = some o) ∧ x ∉ ρ
  | _, _, _, _, .nil a f, x, hx => by rw [a, f] at hx; omega
  | _, _, _, _, .cons (a := a) (f := f) (a' := a') (f' := f') h t e1 e2, x, hx => by
    rw [e1, e2] at hx
    by_cases z : 1 ≤ a x + f x
    · exact Rep.there h x z
    · exact Reps.there t x (by omega)
end
mutual
/-- frozen: what was owned is no longer -/
theorem Rep.fz : ∀ {d : D} {v : V} {A F : Cnt}, Rep K mg H ρ d v A F → ∃ F', Rep K mg H ρ (fz d) v c0 F' ∧ ∀ x, 1 ≤ F' x → 1 ≤ A x + F x
  | _, _, _, _, .non a f => ⟨c0, .non (fun _ => rfl) (fun _ => rfl), fun x h => by simp [c0] at h⟩
  | _, _, _, _, .bl a f => ⟨c0, .bl (fun _ => rfl) (fun _ => rfl), fun x h => by simp [c0] at h⟩
  | _, _, _, _, .int a f => ⟨c0, .int (fun _ => rfl) (fun _ => rfl), fun x h => by simp [c0] at h⟩
  | _, _, _, _, .str a f => ⟨c0, .str (fun _ => rfl) (fun _ => rfl), fun x h => by simp [c0] at h⟩
  | _, _, _, _, .tup h t => let ⟨F', r, q⟩ := Reps.fz t; ⟨F', .tup h r, q⟩
  | _, _, _, _, .own (p := p) h hp t e => by
    obtain ⟨F', r, q⟩ := Reps.fz t
    refine ⟨fun x => cp p x + F' x, .frz h hp r (fun _ => rfl), fun x hx => ?_⟩
    rw [e]
    have := q x
    by_cases z : 1 ≤ F' x
    · have := q x z; omega
    · have hx : 1 ≤ cp p x + F' x := hx
      omega
  | _, _, _, _, .frz (p := p) h hp t e => by
    obtain ⟨F', r, q⟩ := Reps.fz t
    refine ⟨fun x => cp p x + F' x, .frz h hp r (fun _ => rfl), fun x hx => ?_⟩
    rw [e]
    by_cases z : 1 ≤ F' x
    · have := q x z; omega
    · have hx : 1 ≤ cp p x + F' x := hx
      omega
  | _, _, _, _, .ro h a f => ⟨c0, .ro h (fun _ => rfl) (fun _ => rfl), fun x h => by simp [c0] at h⟩
  | _, _, _, _, .box h a f => ⟨c0, .box h (fun _ => rfl) (fun _ => rfl), fun x h => by simp [c0] at h⟩
  | _, _, _, _, .fn h k a f => ⟨c0, .fn h k (fun _ => rfl) (fun _ => rfl), fun x h => by simp [c0] at h⟩
  | _, _, _, _, .ty a f => ⟨c0, .ty (fun _ => rfl) (fun _ => rfl), fun x h => by simp [c0] at h⟩
  | _, _, _, _, .exc h a f => ⟨c0, .exc h (fun _ => rfl) (fun _ => rfl), fun x h => by simp [c0] at h⟩
  | _, _, _, _, .dicO (p := p) h hp pl t e1 e2 => ⟨cp p, .dicF h.rd hp pl t (fun _ => rfl) (fun _ => rfl), fun x hx => by rw [e1]; omega⟩
  | _, _, _, _, .dicF (p := p) h hp pl t e1 e2 => ⟨cp p, .dicF h hp pl t (fun _ => rfl) (fun _ => rfl), fun x hx => by rw [e2]; omega⟩
  | _, _, _, _, .dilO (p := p) (f := f) h hp pl t e1 e2 => ⟨fun x => cp p x + f x, .dilF h.rd hp pl t (fun _ => rfl) (fun _ => rfl), fun x hx => by rw [e1, e2]; exact hx⟩
  | _, _, _, _, .dilF (p := p) (f := f) h hp pl t e1 e2 => ⟨fun x => cp p x + f x, .dilF h hp pl t (fun _ => rfl) (fun _ => rfl), fun x hx => by rw [e2]; exact Nat.le_trans hx (Nat.le_add_left _ _)⟩
theorem Reps.fz : ∀ {ds : List D} {vs : List V} {A F : Cnt}, Reps K mg H ρ ds vs A F → ∃ F', Reps K mg H ρ (fzs ds) vs c0 F' ∧ ∀ x, 1 ≤ F' x → 1 ≤ A x + F x
  | _, _, _, _, .nil a f => ⟨c0, .nil (fun _ => rfl) (fun _ => rfl), fun x h => by simp [c0] at h⟩
  | _, _, _, _, .cons h t e1 e2 => by
    obtain ⟨F1, r1, q1⟩ := Rep.fz h
    obtain ⟨F2, r2, q2⟩ := Reps.fz t
    refine ⟨fun x => F1 x + F2 x, .cons r1 r2 (fun _ => rfl) (fun _ => rfl), fun x hx => ?_⟩
    rw [e1, e2]
    by_cases z : 1 ≤ F1 x
    · have := q1 x z; omega
    · have hx : 1 ≤ F1 x + F2 x := hx
      have := q2 x (by omega); omega
end
mutual
theorem Rep.noF : ∀ {d : D} {v : V} {A F : Cnt}, Rep K mg H ρ d v A F → noF d = true → ∀ x, F x = 0
  | _, _, _, _, .non _ f, _, x => f x
  | _, _, _, _, .bl _ f, _, x => f x
  | _, _, _, _, .int _ f, _, x => f x
  | _, _, _, _, .str _ f, _, x => f x
  | _, _, _, _, .tup _ t, h, x => Reps.noF t (by simpa [Zm.noF] using h) x
  | _, _, _, _, .own _ _ t _, h, x => Reps.noF t (by simpa [Zm.noF] using h) x
  | _, _, _, _, .frz _ _ t _, h, x => by simp [Zm.noF] at h
  | _, _, _, _, .ro _ _ f, _, x => f x
  | _, _, _, _, .box _ _ f, _, x => f x
  | _, _, _, _, .fn _ _ _ f, _, x => f x
  | _, _, _, _, .ty _ f, _, x => f x
  | _, _, _, _, .exc _ _ f, _, x => f x
  | _, _, _, _, .dicO _ _ _ _ _ e2, _, x => e2 x
  | _, _, _, _, .dicF _ _ _ _ _ _, h, x => by simp [Zm.noF] at h
  | _, _, _, _, .dilO _ _ _ t _ e2, h, x => (e2 x).trans (Reps.noF t (by simpa [Zm.noF] using h) x)
  | _, _, _, _, .dilF _ _ _ _ _ _, h, x => by simp [Zm.noF] at h
theorem Reps.noF : ∀ {ds : List D} {vs : List V} {A F : Cnt}, Reps K mg H ρ ds vs A F → noFs ds = true → ∀ x, F x = 0
  | _, _, _, _, .nil _ f, _, x => f x
  | _, _, _, _, .cons h t e1 e2, hn, x => by
    simp only [noFs, Bool.and_eq_true] at hn
    rw [e2, Rep.noF h hn.1, Reps.noF t hn.2]
end
mutual
theorem Rep.plain : ∀ {d : D} {v : V} {A F : Cnt}, Rep K mg H ρ d v A F → plain d = true → ∀ x, A x = 0 ∧ F x = 0
  | _, _, _, _, .non a f, _, x => ⟨a x, f x⟩
  | _, _, _, _, .bl a f, _, x => ⟨a x, f x⟩
  | _, _, _, _, .int a f, _, x => ⟨a x, f x⟩
  | _, _, _, _, .str a f, _, x => ⟨a x, f x⟩
  | _, _, _, _, .tup _ t, h, x => Reps.plain t (by simpa [Zm.plain] using h) x
  | _, _, _, _, .own _ _ t _, h, x => by simp [Zm.plain] at h
  | _, _, _, _, .frz _ _ t _, h, x => by simp [Zm.plain] at h
  | _, _, _, _, .ro _ a f, _, x => ⟨a x, f x⟩
  | _, _, _, _, .box _ a f, _, x => ⟨a x, f x⟩
  | _, _, _, _, .fn _ _ a f, _, x => ⟨a x, f x⟩
  | _, _, _, _, .ty a f, _, x => ⟨a x, f x⟩
  | _, _, _, _, .exc _ a f, _, x => ⟨a x, f x⟩
  | _, _, _, _, .dicO _ _ _ _ _ _, h, x => by simp [Zm.plain] at h
  | _, _, _, _, .dicF _ _ _ _ _ _, h, x => by simp [Zm.plain] at h
  | _, _, _, _, .dilO _ _ _ _ _ _, h, x => by simp [Zm.plain] at h
  | _, _, _, _, .dilF _ _ _ _ _ _, h, x => by simp [Zm.plain] at h
theorem Reps.plain : ∀ {ds : List D} {vs : List V} {A F : Cnt}, Reps K mg H ρ ds vs A F → plains ds = true → ∀ x, A x = 0 ∧ F x = 0
  | _, _, _, _, .nil a f, _, x => ⟨a x, f x⟩
  | _, _, _, _, .cons h t e1 e2, hn, x => by
    simp only [plains, Bool.and_eq_true] at hn
    have z1 := Rep.plain h hn.1 x
    have z2 := Reps.plain t hn.2 x
    rw [e1, e2]; omega
end
/-- a place in a row -/
theorem Reps.at : ∀ {ds : List D} {vs : List V} {A F : Cnt} {i : Nat} {d : D}, Reps K mg H ρ ds vs A F → ds[i]? = some d → ∃ v a f, vs[i]? = some v ∧ Rep K mg H ρ d v a f ∧ ∀ x, a x ≤ A x ∧ f x ≤ F x
  | _, _, _, _, i, _, .nil _ _, e => by simp at e
  | _, _, _, _, 0, _, .cons h t e1 e2, e => by
    simp at e; subst e
    exact ⟨_, _, _, rfl, h, fun x => by rw [e1, e2]; omega⟩
  | _, _, _, _, i + 1, _, .cons h t e1 e2, e => by
    obtain ⟨v, a, f, q1, q2, q3⟩ := Reps.at t (i := i) (by simpa using e)
    exact ⟨v, a, f, by simpa using q1, q2, fun x => by have := q3 x; rw [e1, e2]; omega⟩
/-- .. put otherwise -/
theorem Reps.set : ∀ {ds : List D} {vs : List V} {A F : Cnt} {i : Nat} {d e : D} {v : V} {a f : Cnt}, Reps K mg H ρ ds vs A F → ds[i]? = some d → Rep K mg H ρ e v a f →
    ∃ w a0 f0, vs[i]? = some w ∧ Rep K mg H ρ d w a0 f0 ∧ ∃ A' F', Reps K mg H ρ (ds.set i e) (vs.set i v) A' F' ∧ ∀ x, A' x + a0 x = A x + a x ∧ F' x + f0 x = F x + f x
  | _, _, _, _, i, _, _, _, _, _, .nil _ _, e, _ => by simp at e
  | _, _, _, _, 0, _, _, _, _, _, .cons h t e1 e2, e, r => by
    simp at e; subst e
    refine ⟨_, _, _, rfl, h, _, _, .cons r t (fun _ => rfl) (fun _ => rfl), fun x => ?_⟩
    rw [e1, e2]; omega
  | _, _, _, _, i + 1, _, _, _, _, _, .cons h t e1 e2, e, r => by
    obtain ⟨w, a0, f0, q1, q2, A', F', q3, q4⟩ := Reps.set t (i := i) (by simpa using e) r
    refine ⟨w, a0, f0, by simpa using q1, q2, _, _, .cons h q3 (fun _ => rfl) (fun _ => rfl), fun x => ?_⟩
    have := q4 x
    rw [e1, e2]; omega
theorem Reps.append : ∀ {ds es : List D} {vs ws : List V} {A F A' F' : Cnt}, Reps K mg H ρ ds vs A F → Reps K mg H ρ es ws A' F' → Reps K mg H ρ (ds ++ es) (vs ++ ws) (fun x => A x + A' x) (fun x => F x + F' x)
  | _, _, _, _, _, _, _, _, .nil a f, s => s.cong (fun x => by show _ + _ = _; rw [a]; omega) (fun x => by show _ + _ = _; rw [f]; omega)
  | _, _, _, _, _, _, _, _, .cons h t e1 e2, s => .cons h (Reps.append t s) (fun x => by show _ + _ = _; rw [e1]; omega) (fun x => by show _ + _ = _; rw [e2]; omega)
theorem Reps.one (h : Rep K mg H ρ d v A F) : Reps K mg H ρ [d] [v] A F := .cons h (.nil (A := c0) (F := c0) (fun _ => rfl) (fun _ => rfl)) (fun _ => rfl) (fun _ => rfl)
theorem Reps.split : ∀ {ds es : List D} {vs : List V} {A F : Cnt}, Reps K mg H ρ (ds ++ es) vs A F →
    ∃ ws us a f a' f', vs = ws ++ us ∧ Reps K mg H ρ ds ws a f ∧ Reps K mg H ρ es us a' f' ∧ ∀ x, A x = a x + a' x ∧ F x = f x + f' x
  | [], es, vs, A, F, h => ⟨[], vs, c0, c0, A, F, rfl, .nil (fun _ => rfl) (fun _ => rfl), h, fun x => by simp [c0]⟩
  | d :: ds, es, _, _, _, .cons h t e1 e2 => by
    obtain ⟨ws, us, a, f, a', f', e, r1, r2, q⟩ := Reps.split t
    subst e
    exact ⟨_ :: ws, us, _, _, a', f', rfl, .cons h r1 (fun _ => rfl) (fun _ => rfl), r2, fun x => by rw [e1, e2]; have := q x; omega⟩
theorem Reps.reverse : ∀ {ds : List D} {vs : List V} {A F : Cnt}, Reps K mg H ρ ds vs A F → Reps K mg H ρ ds.reverse vs.reverse A F
  | _, _, _, _, .nil a f => .nil a f
  | _, _, _, _, .cons h t e1 e2 => by
    rw [List.reverse_cons, List.reverse_cons]
    exact (Reps.append (Reps.reverse t) (Reps.one h)).cong (fun x => by rw [e1]; omega) (fun x => by rw [e2]; omega)
end
end Zm
set_option Elab.async false
set_option linter.all false
set_option maxRecDepth 100000
set_option autoImplicit false
/-! Z1: the state of the machine, what an expression's tree promises. -/
namespace Zm
open PySem PySem.Spec PyProof.Rows L2
theorem no0 {x : Addr} {P : Prop} (h : 1 ≤ c0 x) : P := absurd h (by show ¬ 1 ≤ 0; omega)
abbrev Xc := Str × Option Int
inductive R (α : Type) where
  | ok (a : α) (s : Sto) | ex (x : Xc) (s : Sto) | bad
def R.bind {α β : Type} (r : R α) (k : α → Sto → R β) : R β := match r with
  | .ok a s => k a s
  | .ex x s => .ex x s
  | .bad => .bad
@[simp] theorem R.bind_ok {α β : Type} {a : α} {s : Sto} {k : α → Sto → R β} : (R.ok a s).bind k = k a s := rfl
@[simp] theorem R.bind_ex {α β : Type} {x : Xc} {s : Sto} {k : α → Sto → R β} : (R.ex x s : R α).bind k = .ex x s := rfl
@[simp] theorem R.bind_bad {α β : Type} {k : α → Sto → R β} : (R.bad : R α).bind k = .bad := rfl
abbrev M := Env → Sto → R D
abbrev Fn := List D → Sto → R D
def R.of {α : Type} (d : Option α) (s : Sto) : R α := match d with
  | some d => .ok d s
  | none => .bad
@[simp] theorem R.of_some {α : Type} {d : α} {s : Sto} : R.of (some d) s = .ok d s := rfl
@[simp] theorem R.of_none {α : Type} {s : Sto} : R.of (none : Option α) s = .bad := rfl
section
variable (K : PySem.W.Frag) (mg : Str → Option Value)
/-- the store's lists, where they stand -/
structure Wd (ρ : List Addr) (s : Sto) (H : Hp) : Prop where
  len : ρ.length = s.length
  nd : ρ.Nodup
  at_ : ∀ (n : Nat) (p : Addr) (xs : List D), ρ[n]? = some p → s[n]? = some xs → plains xs = true ∧ ∃ vs a f, H p = some (.lst vs) ∧ Reps K mg H ρ xs vs a f
inductive EnvR (H : Hp) (ρ : List Addr) : Env → L2.St → Cnt → Cnt → Prop
  | nil {A F : Cnt} : (∀ x, A x = 0) → (∀ x, F x = 0) → EnvR H ρ [] [] A F
  | no {σm : Env} {w : Option V} {σ : L2.St} {A F : Cnt} : EnvR H ρ σm σ A F → EnvR H ρ (none :: σm) (w :: σ) A F
  | yes {d : D} {v : V} {σm : Env} {σ : L2.St} {a f a' f' A F : Cnt} : Rep K mg H ρ d v a f → EnvR H ρ σm σ a' f' → (∀ x, A x = a x + a' x) → (∀ x, F x = f x + f' x) → EnvR H ρ (some d :: σm) (some v :: σ) A F
structure Rel (σm : Env) (s : Sto) (σ : L2.St) (H : Hp) (ρ : List Addr) (A F : Cnt) : Prop where
  env : EnvR K mg H ρ σm σ A F
  wd : Wd K mg ρ s H
  sep : ∀ x, A x ≤ 1 ∧ (1 ≤ A x → F x = 0)
end
/-- an exception of the machine, as it lies -/
def RepX (mg : Str → Option Value) (H : Hp) (x : Xc) (cls : Value) (dd : Option Addr) : Prop :=
  ∃ C, mg x.1 = some (.ref C) ∧ cls = .ref C ∧ match x.2 with
    | none => dd = none
    | some m => ∃ q, dd = some q ∧ H q = some (.xd [("many", .int m)])
section
variable {K : PySem.W.Frag} {mg : Str → Option Value} {H H' H1 : Hp} {ρ ρ' ρ1 : List Addr} {σm : Env} {σ : L2.St} {s s' s1 : Sto} {d e : D} {ds es : List D} {v : V} {vs ws : List V} {A F A' F' a f Mc : Cnt}
theorem EnvR.cong : EnvR K mg H ρ σm σ A F → (∀ x, A' x = A x) → (∀ x, F' x = F x) → EnvR K mg H ρ σm σ A' F' := by
  intro h hA hF
  have : A' = A := funext hA
  have : F' = F := funext hF
  subst_vars; exact h
theorem EnvR.length : ∀ {σm : Env} {σ : L2.St} {A F : Cnt}, EnvR K mg H ρ σm σ A F → σm.length = σ.length
  | _, _, _, _, .nil _ _ => rfl
  | _, _, _, _, .no t => congrArg (· + 1) t.length
  | _, _, _, _, .yes _ t _ _ => congrArg (· + 1) t.length
theorem EnvR.frame (fr : Fr Mc H H' ρ ρ') : ∀ {σm : Env} {σ : L2.St} {A F : Cnt}, EnvR K mg H ρ σm σ A F → (∀ x, 1 ≤ Mc x → A x = 0 ∧ F x = 0) → EnvR K mg H' ρ' σm σ A F
  | _, _, _, _, .nil a f, _ => .nil a f
  | _, _, _, _, .no t, hm => .no (EnvR.frame fr t hm)
  | _, _, _, _, .yes h t e1 e2, hm => .yes (h.frame fr fun x hx => by have := hm x hx; rw [e1, e2] at this; omega) (EnvR.frame fr t fun x hx => by have := hm x hx; rw [e1, e2] at this; omega) e1 e2
theorem EnvR.there : ∀ {σm : Env} {σ : L2.St} {A F : Cnt}, EnvR K mg H ρ σm σ A F → ∀ x, 1 ≤ A x + F x → (∃ o, H x = some o) ∧ x ∉ ρ
  | _, _, _, _, .nil a f, x, hx => by rw [a, f] at hx; omega
  | _, _, _, _, .no t, x, hx => EnvR.there t x hx
  | _, _, _, _, .yes (a := a) (f := f) h t e1 e2, x, hx => by
    rw [e1, e2] at hx
    by_cases z : 1 ≤ a x + f x
    · exact h.there x z
    · exact EnvR.there t x (by omega)
theorem EnvR.get : ∀ {σm : Env} {σ : L2.St} {A F : Cnt} {i : Nat} {d : D}, EnvR K mg H ρ σm σ A F → σm[i]? = some (some d) → ∃ v a f, σ[i]? = some (some v) ∧ Rep K mg H ρ d v a f ∧ ∀ x, a x ≤ A x ∧ f x ≤ F x
  | _, _, _, _, i, _, .nil _ _, e => by simp at e
  | _, _, _, _, 0, _, .no _, e => by simp at e
  | _, _, _, _, i + 1, _, .no t, e => by
    obtain ⟨v, a, f, q⟩ := EnvR.get t (i := i) (by simpa using e)
    exact ⟨v, a, f, by simpa using q⟩
  | _, _, _, _, 0, _, .yes h t e1 e2, e => by
    simp at e; subst e
    exact ⟨_, _, _, rfl, h, fun x => by rw [e1, e2]; omega⟩
  | _, _, _, _, i + 1, _, .yes h t e1 e2, e => by
    obtain ⟨v, a, f, q1, q2, q3⟩ := EnvR.get t (i := i) (by simpa using e)
    exact ⟨v, a, f, by simpa using q1, q2, fun x => by have := q3 x; rw [e1, e2]; omega⟩
/-- a slot stored: what it held goes -/
theorem EnvR.set : ∀ {σm : Env} {σ : L2.St} {A F : Cnt} (i : Nat) {d : D} {v : V} {a f : Cnt}, EnvR K mg H ρ σm σ A F → Rep K mg H ρ d v a f → i < σm.length →
    ∃ A' F', EnvR K mg H ρ (σm.set i (some d)) (σ.set i (some v)) A' F' ∧ (∀ x, A' x ≤ A x + a x ∧ F' x ≤ F x + f x) ∧
      ∀ e, σm[i]? = some (some e) → ∃ w a0 f0, σ[i]? = some (some w) ∧ Rep K mg H ρ e w a0 f0 ∧ ∀ x, A' x + a0 x = A x + a x ∧ F' x + f0 x = F x + f x
  | _, _, _, _, i, _, _, _, _, .nil _ _, _, hi => by simp at hi
  | _, _, _, _, 0, _, _, _, _, .no t, r, _ => ⟨_, _, .yes r t (fun _ => rfl) (fun _ => rfl), fun x => by constructor <;> show _ + _ ≤ _ <;> omega, fun e q => by simp at q⟩
  | _, _, _, _, i + 1, _, _, _, _, .no t, r, hi => by
    obtain ⟨A', F', q1, q2, q3⟩ := EnvR.set i t r (by simpa using hi)
    exact ⟨A', F', .no q1, q2, fun e q => q3 e (by simpa using q)⟩
  | _, _, _, _, 0, _, _, _, _, .yes h t e1 e2, r, _ => by
    refine ⟨_, _, .yes r t (fun _ => rfl) (fun _ => rfl), fun x => by rw [e1, e2]; omega, fun e q => ?_⟩
    simp at q; subst q
    exact ⟨_, _, _, rfl, h, fun x => by rw [e1, e2]; omega⟩
  | _, _, _, _, i + 1, _, _, _, _, .yes h t e1 e2, r, hi => by
    obtain ⟨A', F', q1, q2, q3⟩ := EnvR.set i t r (by simpa using hi)
    refine ⟨_, _, .yes h q1 (fun _ => rfl) (fun _ => rfl), fun x => by have := q2 x; rw [e1, e2]; omega, fun e q => ?_⟩
    obtain ⟨w, a0, f0, z1, z2, z3⟩ := q3 e (by simpa using q)
    exact ⟨w, a0, f0, by simpa using z1, z2, fun x => by have := z3 x; rw [e1, e2]; omega⟩
/-- fewer slots known -/
theorem EnvR.less : ∀ {σm σn : Env} {σ : L2.St} {A F : Cnt}, EnvR K mg H ρ σm σ A F → σn.length = σm.length → (∀ (i : Nat) (d : D), σn[i]? = some (some d) → σm[i]? = some (some d)) →
    ∃ A' F', EnvR K mg H ρ σn σ A' F' ∧ ∀ x, A' x ≤ A x ∧ F' x ≤ F x
  | [], [], _, _, _, .nil a f, _, _ => ⟨_, _, .nil a f, fun x => ⟨Nat.le_refl _, Nat.le_refl _⟩⟩
  | _ :: _, n :: σn, _, _, _, .no t, hl, hi => by
    obtain ⟨A', F', r, q⟩ := EnvR.less t (σn := σn) (by simpa using hl) fun i d e => by simpa using hi (i + 1) d (by simpa using e)
    cases n with
    | none => exact ⟨A', F', .no r, q⟩
    | some d => have := hi 0 d rfl; simp at this
  | _ :: _, n :: σn, _, _, _, .yes h t e1 e2, hl, hi => by
    obtain ⟨A', F', r, q⟩ := EnvR.less t (σn := σn) (by simpa using hl) fun i d e => by simpa using hi (i + 1) d (by simpa using e)
    cases n with
    | none => exact ⟨A', F', .no r, fun x => by have := q x; rw [e1, e2]; omega⟩
    | some d =>
      have := hi 0 d rfl
      simp at this; subst this
      exact ⟨_, _, .yes h r (fun _ => rfl) (fun _ => rfl), fun x => by have := q x; rw [e1, e2]; omega⟩
theorem Wd.same (w : Wd K mg ρ s H) (h : Same H H') : Wd K mg ρ s H' := by
  have fr : Fr c0 H H' ρ ρ := ⟨fun x o e => .inl (h x o e), fun x e => h.free e, [], by simp, by simp⟩
  refine ⟨w.len, w.nd, fun n p xs e1 e2 => ?_⟩
  obtain ⟨q, vs, a, f, q1, q2⟩ := w.at_ n p xs e1 e2
  exact ⟨q, vs, a, f, h _ _ q1, q2.frame fr fun x hx => by simp [c0] at hx⟩
theorem Wd.lst (w : Wd K mg ρ s H) {p : Addr} (h : p ∈ ρ) : ∃ l, H p = some (.lst l) := by
  obtain ⟨n, hn⟩ := List.getElem?_of_mem h
  have hl := (List.getElem?_eq_some_iff.mp hn).1
  rw [w.len] at hl
  obtain ⟨_, vs, _, _, q, _⟩ := w.at_ n p _ hn (List.getElem?_eq_getElem hl)
  exact ⟨vs, q⟩
theorem Fr.of_same (h : Same H H') : Fr Mc H H' ρ ρ := ⟨fun x o e => .inl (h x o e), fun x e => h.free e, [], by simp, by simp⟩
theorem Rel.next (r : Rel K mg σm s σ H ρ A F) (fr : Fr c0 H H' ρ ρ') (w : Wd K mg ρ' s' H') : Rel K mg σm s' σ H' ρ' A F :=
  ⟨r.env.frame fr fun _ hx => no0 hx, w, r.sep⟩
/-- the counts of a result, against the slots' and the heap at the start -/
def Gd (A F : Cnt) (H : Hp) (a f : Cnt) : Prop := ∀ x, a x ≤ 1 ∧ (1 ≤ a x → f x = 0 ∧ H x = none) ∧ (1 ≤ f x → 1 ≤ A x ∨ 1 ≤ F x ∨ H x = none)
/-- .. against the arguments' -/
def Out (a f : Cnt) (H : Hp) (a' f' : Cnt) : Prop := ∀ x, a' x ≤ 1 ∧ (1 ≤ a' x → f' x = 0 ∧ (H x = none ∨ 1 ≤ a x)) ∧ (1 ≤ f' x → 1 ≤ a x ∨ 1 ≤ f x ∨ H x = none)
def Sp1 (a f : Cnt) : Prop := ∀ x, a x ≤ 1 ∧ (1 ≤ a x → f x = 0)
theorem Gd.sp (g : Gd A F H a f) : Sp1 a f := fun x => ⟨(g x).1, fun h => ((g x).2.1 h).1⟩
theorem Out.sp (g : Out A F H a f) : Sp1 a f := fun x => ⟨(g x).1, fun h => ((g x).2.1 h).1⟩
theorem Gd.out {a' f' : Cnt} (g : Gd A F H a f) (fr : Fr c0 H H1 ρ ρ1) (o : Out a f H1 a' f') : Gd A F H a' f' := fun x => by
  obtain ⟨o1, o2, o3⟩ := o x
  obtain ⟨g1, g2, g3⟩ := g x
  refine ⟨o1, fun h => ⟨(o2 h).1, ?_⟩, fun h => ?_⟩
  · rcases (o2 h).2 with z | z
    · exact fr.there x z
    · exact (g2 z).2
  · rcases o3 h with z | z | z
    · exact .inr (.inr (g2 z).2)
    · exact g3 z
    · exact .inr (.inr (fr.there x z))
theorem Gd.zero (ha : ∀ x, a x = 0) (hf : ∀ x, f x = 0) : Gd A F H a f := fun x => by rw [ha, hf]; omega
theorem Out.zero {a' f' : Cnt} (ha : ∀ x, a' x = 0) (hf : ∀ x, f' x = 0) : Out a f H a' f' := fun x => by rw [ha, hf]; omega
theorem Rep.on (r : Rep K mg H ρ d v A F) (fr : Fr c0 H H' ρ ρ') : Rep K mg H' ρ' d v A F := r.frame fr fun _ hx => no0 hx
theorem Reps.on (r : Reps K mg H ρ ds vs A F) (fr : Fr c0 H H' ρ ρ') : Reps K mg H' ρ' ds vs A F := r.frame fr fun _ hx => no0 hx
theorem Rep.sm (r : Rep K mg H ρ d v A F) (h : Same H H') : Rep K mg H' ρ d v A F := r.on (Fr.of_same h)
theorem Reps.sm (r : Reps K mg H ρ ds vs A F) (h : Same H H') : Reps K mg H' ρ ds vs A F := r.on (Fr.of_same h)
theorem Fr.tr (a : Fr c0 H H1 ρ ρ1) (b : Fr c0 H1 H' ρ1 ρ') : Fr c0 H H' ρ ρ' := a.trans b fun _ hx => no0 hx
theorem same_upd {H : Hp} {p : Addr} {o : HO} (hp : H p = none) : Same H (upd H p o) := fun x u e => by rw [upd_ne (ne_of_none e hp)]; exact e
/-! ### an expression's reading -/
section
variable (K mg) (W : WX) (σ : L2.St) (A F : Cnt) (H : Hp) (ρ : List Addr)
def oE (Q : VK) : R D → Prop
  | .ok d s' => ∀ v H' ρ' a f, Fr c0 H H' ρ ρ' → Wd K mg ρ' s' H' → Rep K mg H' ρ' d v a f → Gd A F H a f → Q v H'
  | .ex x s' => ∀ cls dd H' ρ', Fr c0 H H' ρ ρ' → Wd K mg ρ' s' H' → RepX mg H' x cls dd → W cls dd σ H'
  | .bad => False
def oA (Q : List V → Hp → Prop) : R (List D) → Prop
  | .ok ds s' => ∀ vs H' ρ' a f, Fr c0 H H' ρ ρ' → Wd K mg ρ' s' H' → Reps K mg H' ρ' ds vs a f → Gd A F H a f → Q vs H'
  | .ex x s' => ∀ cls dd H' ρ', Fr c0 H H' ρ ρ' → Wd K mg ρ' s' H' → RepX mg H' x cls dd → W cls dd σ H'
  | .bad => False
end
section
variable (K : PySem.W.Frag) (mg : Str → Option Value) (W : WX)
def rE (m : M) : TE := fun σ H Q => ∃ σm s ρ A F, Rel K mg σm s σ H ρ A F ∧ oE K mg W σ A F H ρ Q (m σm s)
def rA (m : Env → Sto → R (List D)) : TA := fun σ H Q => ∃ σm s ρ A F, Rel K mg σm s σ H ρ A F ∧ oA K mg W σ A F H ρ Q (m σm s)
end
@[simp] def mArgs : List M → Env → Sto → R (List D)
  | [], _, s => .ok [] s
  | m :: ms, σ, s => (m σ s).bind fun d s1 => (mArgs ms σ s1).bind fun ds s2 => .ok (d :: ds) s2
end
def SE (X : Cx) (W : WX) (e : Expr) (m : M) : Prop := PE X e (rE X.K X.mg W m)
def SA (X : Cx) (W : WX) (es : List Expr) (ms : List M) : Prop := PA X es (rA X.K X.mg W (mArgs ms))
theorem PE.imp {X : Cx} {e : Expr} {t t' : TE} (h : PE X e t) (q : ∀ σ H Q, t' σ H Q → t σ H Q) : PE X e t' := ⟨fun pins s σ H Q I w => h.run pins s σ H Q I (q σ H Q w)⟩
theorem PT.imp {X : Cx} {e : Expr} {t t' : TT} (h : PT X e t) (q : ∀ σ H Q, t' σ H Q → t σ H Q) : PT X e t' := ⟨fun pins s σ H Q I w => h.run pins s σ H Q I (q σ H Q w)⟩
theorem PA.imp {X : Cx} {e : List Expr} {t t' : TA} (h : PA X e t) (q : ∀ σ H Q, t' σ H Q → t σ H Q) : PA X e t' := ⟨fun pos pins s σ H Q I w => h.run pos pins s σ H Q I (q σ H Q w)⟩
theorem PS.imp {X : Cx} {e : Stmt} {t t' : TS} (h : PS X e t) (q : ∀ D σ H, t' D σ H → t D σ H) : PS X e t' := ⟨fun pins s σ H D I w => h.run pins s σ H D I (q D σ H w)⟩
theorem PSs.imp {X : Cx} {e : List Stmt} {t t' : TS} (h : PSs X e t) (q : ∀ D σ H, t' D σ H → t D σ H) : PSs X e t' := ⟨fun pins s σ H D I w => h.run pins s σ H D I (q D σ H w)⟩
section
variable {K : PySem.W.Frag} {mg : Str → Option Value} {W : WX} {m : M} {ms : List M} {σ : L2.St} {H : Hp}
theorem rA_nil {R : List V → Hp → Prop} (h : rA K mg W (mArgs []) σ H R) : R [] H := by
  obtain ⟨σm, s, ρ, A, F, rel, h⟩ := h
  exact h [] H ρ c0 c0 .refl rel.wd (.nil (fun _ => rfl) (fun _ => rfl)) (.zero (fun _ => rfl) (fun _ => rfl))
theorem rA_cons {R : List V → Hp → Prop} (h : rA K mg W (mArgs (m :: ms)) σ H R) : rE K mg W m σ H fun x H1 => rA K mg W (mArgs ms) σ H1 fun xs H2 => R (x :: xs) H2 := by
  obtain ⟨σm, s, ρ, A, F, rel, h⟩ := h
  refine ⟨σm, s, ρ, A, F, rel, ?_⟩
  unfold mArgs at h
  cases e1 : m σm s with
  | bad => rw [e1] at h; exact h
  | ex x s1 => rw [e1] at h; exact h
  | ok d s1 =>
    rw [e1] at h
    intro v H1 ρ1 a f fr wd rp g
    refine ⟨σm, s1, ρ1, A, F, rel.next fr wd, ?_⟩
    rw [Zm.R.bind_ok] at h
    cases e2 : mArgs ms σm s1 with
    | bad => rw [e2] at h; exact h
    | ex x s2 =>
      rw [e2] at h
      intro cls dd H2 ρ2 fr2 wd2 rx
      exact h cls dd H2 ρ2 (fr.trans fr2 fun _ hx => no0 hx) wd2 rx
    | ok ds s2 =>
      rw [e2] at h
      intro vs H2 ρ2 a2 f2 fr2 wd2 rp2 g2
      refine h (v :: vs) H2 ρ2 (fun x => a x + a2 x) (fun x => f x + f2 x) (fr.trans fr2 fun _ hx => no0 hx) wd2 (.cons (rp.frame fr2 fun _ hx => no0 hx) rp2 (fun _ => rfl) (fun _ => rfl)) fun x => ?_
      obtain ⟨p1, p2, p3⟩ := g x
      obtain ⟨q1, q2, q3⟩ := g2 x
      have th := rp.there x
      have ev := rel.env.there x
      have n1 : H1 x = none → H x = none := fr.there x
      by_cases ha : 1 ≤ a x
      · obtain ⟨⟨o, ho⟩, _⟩ := th (by omega)
        have z2 : a2 x = 0 := by
          cases q : a2 x with
          | zero => rfl
          | succ k => have := (q2 (by omega)).2; rw [ho] at this; cases this
        have z3 : f2 x = 0 := by
          cases q : f2 x with
          | zero => rfl
          | succ k =>
            have hn := (p2 ha).2
            rcases q3 (by omega) with z | z | z
            · obtain ⟨⟨o', ho'⟩, _⟩ := ev (by omega); rw [hn] at ho'; cases ho'
            · obtain ⟨⟨o', ho'⟩, _⟩ := ev (by omega); rw [hn] at ho'; cases ho'
            · rw [ho] at z; cases z
        have := p2 ha
        refine ⟨by show a x + a2 x ≤ 1; omega, fun _ => ⟨by show f x + f2 x = 0; omega, this.2⟩, fun h => ?_⟩
        have h : 1 ≤ f x + f2 x := h
        omega
      · have ha0 : a x = 0 := by omega
        refine ⟨by show a x + a2 x ≤ 1; omega, fun h => ?_, fun h => ?_⟩
        · have h : 1 ≤ a x + a2 x := h
          have z := q2 (by omega)
          have zf : f x = 0 := by
            cases q : f x with
            | zero => rfl
            | succ k => obtain ⟨⟨o, ho⟩, _⟩ := th (by omega); rw [z.2] at ho; cases ho
          exact ⟨by show f x + f2 x = 0; omega, n1 z.2⟩
        · have h : 1 ≤ f x + f2 x := h
          by_cases z : 1 ≤ f x
          · exact p3 z
          · rcases q3 (by omega) with y | y | y
            · exact .inl y
            · exact .inr (.inl y)
            · exact .inr (.inr (n1 y))
end
section
variable {X : Cx} {W : WX} {e : Expr} {es : List Expr} {m ma mb mc : M} {ms : List M} {pos : Pos}
theorem sa_nil : SA X W [] [] := PA.imp pa_nil fun σ H Q h => rA_nil h
theorem sa_cons (he : SE X W e m) (hs : SA X W es ms) (hst : starEach (e :: es) X.env = (false, eval e X.env) :: starEach es X.env := by rfl) : SA X W (e :: es) (m :: ms) :=
  PA.imp (pa_cons he hs hst) fun σ H Q h => rA_cons h
/-! ### what values make of values -/
/-- by values: the arguments ds give d; only new objects come -/
def OpV (K : PySem.W.Frag) (mg : Str → Option Value) (r : List V → Hp → VK → Prop) (g : Sto → List D → Option D) : Prop :=
  ∀ ρ s H ds vs a f d, Wd K mg ρ s H → Reps K mg H ρ ds vs a f → Sp1 a f → g s ds = some d → ∀ Q : VK, (∀ v H' a' f', Same H H' → Rep K mg H' ρ d v a' f' → Out a f H a' f' → Q v H') → r vs H Q
@[simp] def mOp (g : Sto → List D → Option D) (ms : List M) : M := fun σ s => (mArgs ms σ s).bind fun ds s' => R.of (g s' ds) s'
theorem rA_op {K : PySem.W.Frag} {mg : Str → Option Value} {W : WX} {σ : L2.St} {H : Hp} {Q : VK} {r : List V → Hp → VK → Prop} {g : Sto → List D → Option D} (ho : OpV K mg r g) (h : rE K mg W (mOp g ms) σ H Q) : rA K mg W (mArgs ms) σ H fun vs H' => r vs H' Q := by
  obtain ⟨σm, s, ρ, A, F, rel, h⟩ := h
  refine ⟨σm, s, ρ, A, F, rel, ?_⟩
  unfold mOp at h
  cases e1 : mArgs ms σm s with
  | bad => rw [e1] at h; exact h
  | ex x s1 => rw [e1] at h; exact h
  | ok ds s1 =>
    rw [e1, Zm.R.bind_ok] at h
    intro vs H1 ρ1 a f fr wd rp g1
    cases e2 : g s1 ds with
    | none => rw [e2] at h; exact h.elim
    | some d =>
      rw [e2] at h
      exact ho ρ1 s1 H1 ds vs a f d wd rp g1.sp e2 Q fun v H2 a' f' sm rp2 o => h v H2 ρ1 a' f' (fr.trans (Fr.of_same (Mc := c0) sm) fun _ hx => no0 hx) (wd.same sm) rp2 (g1.out fr o)
abbrev r2 (r : R2) : List V → Hp → VK → Prop := fun vs H Q => ∃ x y, vs = [x, y] ∧ r x y H Q
abbrev r1 (r : V → Hp → VK → Prop) : List V → Hp → VK → Prop := fun vs H Q => ∃ x, vs = [x] ∧ r x H Q
theorem rA_2 {K : PySem.W.Frag} {mg : Str → Option Value} {W : WX} {σ : L2.St} {H : Hp} {Q : List V → Hp → Prop} (h : rA K mg W (mArgs [ma, mb]) σ H Q) : rE K mg W ma σ H fun x H1 => rE K mg W mb σ H1 fun y H2 => Q [x, y] H2 := by
  obtain ⟨σm, s, ρ, A, F, rel, h⟩ := rA_cons h
  refine ⟨σm, s, ρ, A, F, rel, ?_⟩
  cases e1 : ma σm s with
  | bad => rw [e1] at h; exact h
  | ex x s1 => rw [e1] at h; exact h
  | ok d s1 =>
    rw [e1] at h
    intro v H1 ρ1 a f fr wd rp g
    obtain ⟨σm, s, ρ, A, F, rel, h⟩ := rA_cons (h v H1 ρ1 a f fr wd rp g)
    refine ⟨σm, s, ρ, A, F, rel, ?_⟩
    cases e2 : mb σm s with
    | bad => rw [e2] at h; exact h
    | ex x s1 => rw [e2] at h; exact h
    | ok d s1 =>
      rw [e2] at h
      intro v H1 ρ1 a f fr wd rp g
      exact rA_nil (h v H1 ρ1 a f fr wd rp g)
theorem rA_1 {K : PySem.W.Frag} {mg : Str → Option Value} {W : WX} {σ : L2.St} {H : Hp} {Q : List V → Hp → Prop} (h : rA K mg W (mArgs [ma]) σ H Q) : rE K mg W ma σ H fun x H1 => Q [x] H1 := by
  obtain ⟨σm, s, ρ, A, F, rel, h⟩ := rA_cons h
  refine ⟨σm, s, ρ, A, F, rel, ?_⟩
  cases e1 : ma σm s with
  | bad => rw [e1] at h; exact h
  | ex x s1 => rw [e1] at h; exact h
  | ok d s1 =>
    rw [e1] at h
    intro v H1 ρ1 a f fr wd rp g
    exact rA_nil (h v H1 ρ1 a f fr wd rp g)
theorem rE_mono {K : PySem.W.Frag} {mg : Str → Option Value} {W : WX} {σ : L2.St} {H : Hp} {Q Q' : VK} (h : rE K mg W m σ H Q) (q : ∀ v H', Q v H' → Q' v H') : rE K mg W m σ H Q' := by
  obtain ⟨σm, s, ρ, A, F, rel, h⟩ := h
  refine ⟨σm, s, ρ, A, F, rel, ?_⟩
  cases e1 : m σm s with
  | bad => rw [e1] at h; exact h
  | ex x s1 => rw [e1] at h; exact h
  | ok d s1 =>
    rw [e1] at h
    intro v H1 ρ1 a f fr wd rp g
    exact q _ _ (h v H1 ρ1 a f fr wd rp g)
theorem s_bin {a b : Expr} {op : Operator} {r : R2} {g : Sto → List D → Option D} (ho : OpR X (binaryOp op) r) (hv : OpV X.K X.mg (r2 r) g) (ha : SE X W a ma) (hb : SE X W b mb) : SE X W (.BinOp a op b pos) (mOp g [ma, mb]) :=
  PE.imp (pe_op ho ha hb) fun σ H Q h => rE_mono (rA_2 (rA_op hv h)) fun v H1 q => rE_mono q fun u H2 ⟨x, y, e, z⟩ => by cases e; exact z
theorem s_un {a : Expr} {op : UnaryOp} {r : V → Hp → VK → Prop} {g : Sto → List D → Option D} (ho : UnR X (unaryOp op) r) (hv : OpV X.K X.mg (r1 r) g) (ha : SE X W a ma) : SE X W (.UnaryOp op a pos) (mOp g [ma]) :=
  PE.imp (pe_un ho ha) fun σ H Q h => rE_mono (rA_1 (rA_op hv h)) fun v H1 ⟨x, e, z⟩ => by cases e; exact z
theorem s_cmp {a b : Expr} {op : CmpOp} {r : R2} {g : Sto → List D → Option D} (ho : OpR X (compareOp op) r) (hv : OpV X.K X.mg (r2 r) g) (ha : SE X W a ma) (hb : SE X W b mb) (hm : behindInMarks op b = false := by first | exact nomark _ | rfl) : SE X W (.Compare a [op] [b] pos) (mOp g [ma, mb]) :=
  PE.imp (pe_cmpR ho ha hb hm) fun σ H Q h => rE_mono (rA_2 (rA_op hv h)) fun v H1 q => rE_mono q fun u H2 ⟨x, y, e, z⟩ => by cases e; exact z
/-- a built-in by its name -/
theorem s_blt {x : Str} {id : String} {p : Pos} {r : List V → Hp → VK → Prop} {g : Sto → List D → Option D} (ho : CallR X (.builtin id) r) (hv : OpV X.K X.mg r g) (hm : X.mg x = none) (hb : bootBuiltins x = some (.builtin id)) (ha : SA X W (e :: es) ms) (hg : Gl X x := by rfl)
    (hn : x ≠ "__name__" := by decide) (hdb : (x == ("__debug__" : Str)) = false := by decide) (he : starEach (e :: es) X.env = (false, eval e X.env) :: starEach es X.env := by rfl) (hpl : (backTo pos (starEach es X.env)).any (·.1) = false := by rfl) : SE X W (.Call (.Name x p) (e :: es) [] pos) (mOp g ms) :=
  PE.imp (pe_callB ho hg hm hb ha hn hdb he hpl) fun σ H Q h => rA_op hv h
theorem s_blty {x : Str} {T : String} {p : Pos} {r : List V → Hp → VK → Prop} {g : Sto → List D → Option D} (ho : CallR X (.type T) r) (hv : OpV X.K X.mg r g) (hm : X.mg x = none) (hb : bootBuiltins x = some (.type T)) (ha : SA X W (e :: es) ms) (hg : Gl X x := by rfl)
    (hn : x ≠ "__name__" := by decide) (hdb : (x == ("__debug__" : Str)) = false := by decide) (he : starEach (e :: es) X.env = (false, eval e X.env) :: starEach es X.env := by rfl) (hpl : (backTo pos (starEach es X.env)).any (·.1) = false := by rfl) : SE X W (.Call (.Name x p) (e :: es) [] pos) (mOp g ms) :=
  PE.imp (pe_callTy ho hg hm hb ha hn hdb he hpl) fun σ H Q h => rA_op hv h
/-! ### names and constants -/
@[simp] def mVar (i : Nat) : M := fun σ s => match σ[i]? with
  | some (some d) => .ok (fz d) s
  | _ => .bad
@[simp] def mC (d : D) : M := fun _ s => .ok d s
theorem rE_var {K : PySem.W.Frag} {mg : Str → Option Value} {W : WX} {i : Nat} {σ : L2.St} {H : Hp} {Q : VK} (h : rE K mg W (mVar i) σ H Q) : tVar i σ H Q := by
  obtain ⟨σm, s, ρ, A, F, rel, h⟩ := h
  unfold mVar at h
  cases e : σm[i]? with
  | none => rw [e] at h; exact h.elim
  | some o =>
    cases o with
    | none => rw [e] at h; exact h.elim
    | some d =>
      rw [e] at h
      obtain ⟨v, a, f, e2, rp, le⟩ := rel.env.get e
      obtain ⟨f', rp', q⟩ := rp.fz
      exact ⟨v, e2, h v H ρ c0 f' .refl rel.wd rp' fun x => ⟨by simp [c0], fun z => by simp [c0] at z, fun z => by have := q x z; have := le x; omega⟩⟩
theorem s_var (i : Nat) {x : Str} {pos : Pos} (hN : X.N[i]? = some x := by rfl) (hv : Vis X.env.scope x := by first | exact Or.inl rfl | exact Or.inr (Or.inl rfl) | exact Or.inr (Or.inr rfl)) (hd : (x == ("__debug__" : Str)) = false := by decide)
    (hcd : (x == ("__classdict__" : Str)) = false := by decide) : SE X W (.Name x pos) (mVar i) := PE.imp (pe_var hN hv hd hcd) fun σ H Q h => rE_var h
theorem rE_c {K : PySem.W.Frag} {mg : Str → Option Value} {W : WX} {d : D} {v : V} {σ : L2.St} {H : Hp} {Q : VK} (hr : ∀ H ρ, Rep K mg H ρ d v c0 c0) (h : rE K mg W (mC d) σ H Q) : tC v σ H Q := by
  obtain ⟨σm, s, ρ, A, F, rel, h⟩ := h
  exact h v H ρ c0 c0 .refl rel.wd (hr H ρ) (.zero (fun _ => rfl) (fun _ => rfl))
theorem s_int {i j pos} : SE X W (.Constant (.int i) j pos) (mC (.int i)) := PE.imp pe_int fun σ H Q h => rE_c (fun _ _ => .int (fun _ => rfl) (fun _ => rfl)) h
theorem s_bl {i j pos} : SE X W (.Constant (.bool i) j pos) (mC (.bl i)) := PE.imp pe_bl fun σ H Q h => rE_c (fun _ _ => .bl (fun _ => rfl) (fun _ => rfl)) h
theorem s_non {j pos} : SE X W (.Constant .none j pos) (mC .non) := PE.imp pe_non fun σ H Q h => rE_c (fun _ _ => .non (fun _ => rfl) (fun _ => rfl)) h
/-- a constant of the module -/
theorem s_gi {x : Str} {i : Int} {t : Tok} {pos : Pos} (hm : X.mg x = some (.int i t)) (hg : Gl X x := by rfl) (hd : (x == ("__debug__" : Str)) = false := by decide) : SE X W (.Name x pos) (mC (.int i)) :=
  PE.imp (pe_glob (v := .int i) hg hm ⟨t, rfl⟩ hd) fun σ H Q h => rE_c (fun _ _ => .int (fun _ => rfl) (fun _ => rfl)) h
/-! ### displays -/
def gTup : Sto → List D → Option D := fun _ ds => if ds.length ≤ sizeLine then some (.tup ds) else none
def gLst : Sto → List D → Option D := fun _ ds => if ds.length ≤ sizeLine then some (.lst true ds) else none
theorem new_tup {K : PySem.W.Frag} {mg : Str → Option Value} {H : Hp} {ρ : List Addr} {p : Addr} {ds : List D} {vs : List V} {a f : Cnt} (hp : H p = none) (r : Reps K mg H ρ ds vs a f) : Rep K mg (upd H p (.tup vs)) ρ (.tup ds) (.ref p) a f :=
  .tup upd_same (r.sm (Zm.same_upd hp))
theorem new_lst {K : PySem.W.Frag} {mg : Str → Option Value} {H : Hp} {ρ : List Addr} {s : Sto} {p : Addr} {ds : List D} {vs : List V} {a f : Cnt} (w : Wd K mg ρ s H) (hp : H p = none) (r : Reps K mg H ρ ds vs a f) (h : Sp1 a f) : Rep K mg (upd H p (.lst vs)) ρ (.lst true ds) (.ref p) (fun x => cp p x + a x) f ∧ Out a f H (fun x => cp p x + a x) f := by
  have hn : p ∉ ρ := fun z => by obtain ⟨l, q⟩ := w.lst z; rw [hp] at q; cases q
  have h0 : a p = 0 ∧ f p = 0 := by
    have := r.there p
    by_cases z : 1 ≤ a p + f p
    · obtain ⟨⟨o, q⟩, _⟩ := this z; rw [hp] at q; cases q
    · omega
  refine ⟨.own upd_same hn (r.sm (Zm.same_upd hp)) (fun _ => rfl), fun x => ?_⟩
  have := h x
  by_cases q : x = p
  · subst q
    dsimp only
    rw [cp_same]
    exact ⟨by omega, fun _ => ⟨h0.2, .inl hp⟩, fun z => .inr (.inl z)⟩
  · dsimp only
    rw [cp_ne q]
    exact ⟨by omega, fun z => ⟨this.2 (by omega), .inr (by omega)⟩, fun z => .inr (.inl z)⟩
theorem Out.refl {a f : Cnt} {H : Hp} (h : Sp1 a f) : Out a f H a f := fun x => by have := h x; exact ⟨this.1, fun z => ⟨this.2 z, .inr z⟩, fun z => .inr (.inl z)⟩
theorem v_tup {K mg} : OpV K mg (fun vs H Q => vs.length ≤ sizeLine ∧ ∀ p, H p = none → Q (.ref p) (upd H p (.tup vs))) gTup := by
  intro ρ s H ds vs a f d w r h e Q q
  unfold Zm.gTup at e
  split at e
  · rename_i z
    cases e
    exact ⟨by rw [← r.length]; exact z, fun p hp => q _ _ _ _ (same_upd hp) (new_tup hp r) (.refl h)⟩
  · cases e
theorem v_lst {K mg} : OpV K mg (fun vs H Q => vs.length ≤ sizeLine ∧ ∀ p, H p = none → Q (.ref p) (upd H p (.lst vs))) gLst := by
  intro ρ s H ds vs a f d w r h e Q q
  unfold Zm.gLst at e
  split at e
  · rename_i z
    cases e
    exact ⟨by rw [← r.length]; exact z, fun p hp => q _ _ _ _ (same_upd hp) (new_lst w hp r h).1 (new_lst w hp r h).2⟩
  · cases e
theorem s_tup {x1} (h : SA X W es ms) : SE X W (.Tuple es x1 pos) (mOp Zm.gTup ms) := PE.imp (pe_tup h) fun σ H Q q => rA_op v_tup q
theorem s_lst (h : SA X W es ms) : SE X W (.List es pos) (mOp Zm.gLst ms) := PE.imp (pe_lst h) fun σ H Q q => rA_op v_lst q
/-- a list that is kept in the store -/
def mBox (ms : List M) : M := fun σ s => (mArgs ms σ s).bind fun ds s' => if ds.length ≤ sizeLine ∧ plains ds = true then .ok (.box s'.length) (s' ++ [ds]) else .bad
theorem s_box (h : SA X W es ms) : SE X W (.List es pos) (mBox ms) := PE.imp (pe_lst h) fun σ H Q q => by
  obtain ⟨σm, s, ρ, A, F, rel, q⟩ := q
  refine ⟨σm, s, ρ, A, F, rel, ?_⟩
  unfold mBox at q
  cases e1 : mArgs ms σm s with
  | bad => rw [e1] at q; exact q
  | ex x s1 => rw [e1] at q; exact q
  | ok ds s1 =>
    rw [e1, Zm.R.bind_ok] at q
    intro vs H1 ρ1 a f fr wd rp g1
    by_cases hz : ds.length ≤ sizeLine ∧ plains ds = true
    · rw [if_pos hz] at q
      refine ⟨by rw [← rp.length]; exact hz.1, fun p hp => ?_⟩
      have sm : Same H1 (upd H1 p (.lst vs)) := Zm.same_upd hp
      have hn : p ∉ ρ1 := fun z => by obtain ⟨l, q⟩ := wd.lst z; rw [hp] at q; cases q
      have fr2 : Fr c0 H1 (upd H1 p (.lst vs)) ρ1 (ρ1 ++ [p]) := ⟨fun x o e => .inl (sm x o e), fun x e => sm.free e, [p], rfl, fun y hy => by simp at hy; subst hy; exact hp⟩
      have hc : ∀ {xs : List D} {ws : List V} {a f : Cnt}, Reps X.K X.mg H1 ρ1 xs ws a f → Reps X.K X.mg (upd H1 p (.lst vs)) (ρ1 ++ [p]) xs ws a f := fun r => r.frame fr2 fun _ hx => no0 hx
      refine q (.ref p) _ (ρ1 ++ [p]) c0 c0 (fr.trans fr2 fun _ hx => no0 hx) ⟨by simp [wd.len], ?_, fun n p' xs e1 e2 => ?_⟩ (.box ?_ (fun _ => rfl) (fun _ => rfl)) (.zero (fun _ => rfl) (fun _ => rfl))
      · rw [List.nodup_append]
        exact ⟨wd.nd, by simp, fun a ha b hb => by simp at hb; subst hb; exact fun z => hn (z ▸ ha)⟩
      · by_cases hl : n < s1.length
        · rw [List.getElem?_append_left (by rw [wd.len]; exact hl)] at e1
          rw [List.getElem?_append_left hl] at e2
          obtain ⟨z, ws, a', f', z1, z2⟩ := wd.at_ n p' xs e1 e2
          exact ⟨z, ws, a', f', sm _ _ z1, hc z2⟩
        · have e : n = s1.length := by
            have := (List.getElem?_eq_some_iff.mp e2).1
            simp at this; omega
          subst e
          rw [← wd.len] at e1
          simp [wd.len] at e1 e2
          subst e1 e2
          exact ⟨hz.2, vs, a, f, upd_same, hc rp⟩
      · rw [← wd.len]; simp
    · rw [if_neg hz] at q; exact q.elim
end
end Zm
set_option Elab.async false
set_option linter.all false
set_option maxRecDepth 100000
set_option autoImplicit false
/-! Z2: tests, chains, conditional values; statements. -/
namespace Zm
open PySem PySem.Spec PyProof.Rows L2
abbrev T := Env → Sto → R Bool
section
variable {K : PySem.W.Frag} {mg : Str → Option Value} {H : Hp} {ρ : List Addr} {x y z : D} {vs : List V} {A F : Cnt}
theorem Reps.inv0 (h : Reps K mg H ρ [] vs A F) : vs = [] ∧ ∀ p, A p = 0 ∧ F p = 0 := by
  cases h with
  | nil a f => exact ⟨rfl, fun p => ⟨a p, f p⟩⟩
theorem Reps.inv1 (h : Reps K mg H ρ [x] vs A F) : ∃ vx, vs = [vx] ∧ Rep K mg H ρ x vx A F := by
  cases h with
  | cons h t e1 e2 =>
    obtain ⟨rfl, z⟩ := Reps.inv0 t
    exact ⟨_, rfl, h.cong (fun p => by rw [e1, (z p).1]; rfl) (fun p => by rw [e2, (z p).2]; rfl)⟩
theorem Reps.inv2 (h : Reps K mg H ρ [x, y] vs A F) : ∃ vx vy ax fx ay fy, vs = [vx, vy] ∧ Rep K mg H ρ x vx ax fx ∧ Rep K mg H ρ y vy ay fy ∧ ∀ p, A p = ax p + ay p ∧ F p = fx p + fy p := by
  cases h with
  | cons h t e1 e2 =>
    obtain ⟨vy, rfl, r⟩ := Reps.inv1 t
    exact ⟨_, vy, _, _, _, _, rfl, h, r, fun p => ⟨e1 p, e2 p⟩⟩
end
section
variable {K : PySem.W.Frag} {mg : Str → Option Value} {W : WX} {H H' H1 : Hp} {ρ ρ' ρ1 : List Addr} {σm : Env} {σ : L2.St} {s s' s1 : Sto} {d e : D} {ds es : List D} {v : V} {vs ws : List V} {A F A' F' a f Mc : Cnt}
theorem Gd.step (fr : Fr c0 H H1 ρ ρ1) (g : Gd A F H1 a f) : Gd A F H a f := fun x => by
  obtain ⟨p, q, r⟩ := g x
  exact ⟨p, fun h => ⟨(q h).1, fr.there x (q h).2⟩, fun h => (r h).elim .inl fun z => z.elim (fun z => .inr (.inl z)) fun z => .inr (.inr (fr.there x z))⟩
theorem oE.step {Q : VK} {r : R D} (fr : Fr c0 H H1 ρ ρ1) (h : oE K mg W σ A F H ρ Q r) : oE K mg W σ A F H1 ρ1 Q r := by
  cases r with
  | bad => exact h
  | ex x s => exact fun cls dd H' ρ' fr' => h cls dd H' ρ' (fr.tr fr')
  | ok d s => exact fun v H' ρ' a f fr' wd rp g => h v H' ρ' a f (fr.tr fr') wd rp (g.step fr)
section
variable (K : PySem.W.Frag) (mg : Str → Option Value) (W : WX) (σ : L2.St) (A F : Cnt) (H : Hp) (ρ : List Addr)
def oT (Q : Bool → Hp → Prop) : R Bool → Prop
  | .ok b s' => ∀ H' ρ', Fr c0 H H' ρ ρ' → Wd K mg ρ' s' H' → Q b H'
  | .ex x s' => ∀ cls dd H' ρ', Fr c0 H H' ρ ρ' → Wd K mg ρ' s' H' → RepX mg H' x cls dd → W cls dd σ H'
  | .bad => False
end
theorem oT.step {Q : Bool → Hp → Prop} {r : R Bool} (fr : Fr c0 H H1 ρ ρ1) (h : oT K mg W σ H ρ Q r) : oT K mg W σ H1 ρ1 Q r := by
  cases r with
  | bad => exact h
  | ex x s => exact fun cls dd H' ρ' fr' => h cls dd H' ρ' (fr.tr fr')
  | ok d s => exact fun H' ρ' fr' => h H' ρ' (fr.tr fr')
variable (K mg W) in
def rT (t : T) : TT := fun σ H Q => ∃ σm s ρ A F, Rel K mg σm s σ H ρ A F ∧ oT K mg W σ H ρ Q (t σm s)
end
def ST (X : Cx) (W : WX) (e : Expr) (t : T) : Prop := PT X e (rT X.K X.mg W t)
def SW (X : Cx) (W : WX) (e : Expr) (t : T) : Prop := PW X e (rT X.K X.mg W t)
theorem PW.imp {X : Cx} {e : Expr} {t t' : TT} (h : PW X e t) (q : ∀ σ H Q, t' σ H Q → t σ H Q) : PW X e t' := ⟨fun wh pins s σ H Q I w => h.run wh pins s σ H Q I (q σ H Q w)⟩
@[simp] def tV (m : M) : T := fun σ s => (m σ s).bind fun d s' => match d with
  | .bl b => .ok b s'
  | _ => .bad
@[simp] def tAnd (t u : T) : T := fun σ s => (t σ s).bind fun b s' => if b = true then u σ s' else .ok false s'
@[simp] def tOr (t u : T) : T := fun σ s => (t σ s).bind fun b s' => if b = true then .ok true s' else u σ s'
@[simp] def tNot (t : T) : T := fun σ s => (t σ s).bind fun b s' => .ok (!b) s'
@[simp] def mIfE (t : T) (a b : M) : M := fun σ s => (t σ s).bind fun c s' => if c = true then a σ s' else b σ s'
@[simp] def mAnd (a b : M) : M := fun σ s => (a σ s).bind fun d s' => match d with
  | .bl true => b σ s'
  | .bl false => .ok (.bl false) s'
  | _ => .bad
@[simp] def mOr (a b : M) : M := fun σ s => (a σ s).bind fun d s' => match d with
  | .bl true => .ok (.bl true) s'
  | .bl false => b σ s'
  | _ => .bad
@[simp] def mNot (a : M) : M := fun σ s => (a σ s).bind fun d s' => match d with
  | .bl b => .ok (.bl (!b)) s'
  | _ => .bad
/-- a op b op' c: b reckoned once -/
def mChain (g g' : Sto → List D → Option D) (a b c : M) : M := fun σ s => (mArgs [a, b] σ s).bind fun ds s' => match ds with
  | [x, y] => (R.of (g s' [x, y]) s').bind fun z s2 => match z with
    | .bl true => (c σ s2).bind fun w s3 => R.of (g' s3 [y, w]) s3
    | .bl false => .ok (.bl false) s2
    | _ => .bad
  | _ => .bad
section
variable {K : PySem.W.Frag} {mg : Str → Option Value} {W : WX} {σ : L2.St} {H : Hp} {m a b c : M} {t u : T}
theorem rT_val {Q : Bool → Hp → Prop} (h : rT K mg W (tV m) σ H Q) : rE K mg W m σ H fun x H1 => ∃ k, x = .bl k ∧ Q k H1 := by
  obtain ⟨σm, s, ρ, A, F, rel, h⟩ := h
  refine ⟨σm, s, ρ, A, F, rel, ?_⟩
  unfold tV at h
  cases e : m σm s with
  | bad => rw [e] at h; exact h
  | ex x s1 => rw [e] at h; exact h
  | ok d s1 =>
    rw [e, Zm.R.bind_ok] at h
    intro v H1 ρ1 a f fr wd rp g
    cases d <;> first | exact (h.elim) | skip
    cases rp
    exact ⟨_, rfl, h H1 ρ1 fr wd⟩
theorem rT_or {Q : Bool → Hp → Prop} (h : rT K mg W (tOr t u) σ H Q) : rT K mg W t σ H fun c H1 => if c = true then Q true H1 else rT K mg W u σ H1 Q := by
  obtain ⟨σm, s, ρ, A, F, rel, h⟩ := h
  refine ⟨σm, s, ρ, A, F, rel, ?_⟩
  unfold Zm.tOr at h
  cases e : t σm s with
  | bad => rw [e] at h; exact h
  | ex x s1 => rw [e] at h; exact h
  | ok d s1 =>
    rw [e, Zm.R.bind_ok] at h
    intro H1 ρ1 fr wd
    cases d with
    | true => exact iteT ((show oT K mg W σ H ρ Q (.ok true s1) by simpa using h) H1 ρ1 fr wd)
    | false => exact iteF ⟨σm, s1, ρ1, A, F, rel.next fr wd, oT.step fr (by simpa using h)⟩
theorem rT_not {Q : Bool → Hp → Prop} (h : rT K mg W (tNot t) σ H Q) : rT K mg W t σ H fun c H1 => Q (!c) H1 := by
  obtain ⟨σm, s, ρ, A, F, rel, h⟩ := h
  refine ⟨σm, s, ρ, A, F, rel, ?_⟩
  unfold Zm.tNot at h
  cases e : t σm s with
  | bad => rw [e] at h; exact h
  | ex x s1 => rw [e] at h; exact h
  | ok d s1 => rw [e, Zm.R.bind_ok] at h; exact h
theorem rE_if {Q : VK} (h : rE K mg W (mIfE t a b) σ H Q) : rT K mg W t σ H fun c H1 => if c = true then rE K mg W a σ H1 Q else rE K mg W b σ H1 Q := by
  obtain ⟨σm, s, ρ, A, F, rel, h⟩ := h
  refine ⟨σm, s, ρ, A, F, rel, ?_⟩
  unfold mIfE at h
  cases e : t σm s with
  | bad => rw [e] at h; exact h
  | ex x s1 => rw [e] at h; exact h
  | ok d s1 =>
    rw [e, Zm.R.bind_ok] at h
    intro H1 ρ1 fr wd
    cases d with
    | true => exact iteT ⟨σm, s1, ρ1, A, F, rel.next fr wd, oE.step fr (by simpa using h)⟩
    | false => exact iteF ⟨σm, s1, ρ1, A, F, rel.next fr wd, oE.step fr (by simpa using h)⟩
theorem rE_and {Q : VK} (h : rE K mg W (mAnd a b) σ H Q) : rE K mg W a σ H fun x H1 => ∃ c, x = .bl c ∧ if c = true then rE K mg W b σ H1 Q else Q (.bl false) H1 := by
  obtain ⟨σm, s, ρ, A, F, rel, h⟩ := h
  refine ⟨σm, s, ρ, A, F, rel, ?_⟩
  unfold mAnd at h
  cases e : a σm s with
  | bad => rw [e] at h; exact h
  | ex x s1 => rw [e] at h; exact h
  | ok d s1 =>
    rw [e, Zm.R.bind_ok] at h
    intro v H1 ρ1 a f fr wd rp g
    cases d <;> first | exact (h.elim) | skip
    rename_i c
    cases rp
    cases c with
    | true => exact ⟨true, rfl, iteT ⟨σm, s1, ρ1, A, F, rel.next fr wd, oE.step fr h⟩⟩
    | false => exact ⟨false, rfl, iteF (h (.bl false) H1 ρ1 c0 c0 fr wd (.bl (fun _ => rfl) (fun _ => rfl)) (.zero (fun _ => rfl) (fun _ => rfl)))⟩
theorem rE_not {Q : VK} (h : rE K mg W (mNot a) σ H Q) : rE K mg W a σ H fun x H1 => ∃ c, x = .bl c ∧ Q (.bl (!c)) H1 := by
  obtain ⟨σm, s, ρ, A, F, rel, h⟩ := h
  refine ⟨σm, s, ρ, A, F, rel, ?_⟩
  unfold mNot at h
  cases e : a σm s with
  | bad => rw [e] at h; exact h
  | ex x s1 => rw [e] at h; exact h
  | ok d s1 =>
    rw [e, Zm.R.bind_ok] at h
    intro v H1 ρ1 a f fr wd rp g
    cases d <;> first | exact (h.elim) | skip
    rename_i c
    cases rp
    exact ⟨c, rfl, h (.bl (!c)) H1 ρ1 c0 c0 fr wd (.bl (fun _ => rfl) (fun _ => rfl)) (.zero (fun _ => rfl) (fun _ => rfl))⟩
/-- two of a chain: r on x y, then r' on y and c's -/
theorem rE_chain {r r' : R2} {g g' : Sto → List D → Option D} (hv : OpV K mg (r2 r) g) (hv' : OpV K mg (r2 r') g') {Q : VK} (h : rE K mg W (mChain g g' a b c) σ H Q) :
    rA K mg W (mArgs [a, b]) σ H fun vs H2 => ∃ x y, vs = [x, y] ∧ r x y H2 fun z H3 => ∃ k, z = .bl k ∧ (if k = true then rE K mg W c σ H3 fun w' H4 => r' y w' H4 Q else Q (.bl false) H3) := by
  obtain ⟨σm, s, ρ, A, F, rel, h⟩ := h
  refine ⟨σm, s, ρ, A, F, rel, ?_⟩
  unfold mChain at h
  cases e : mArgs [a, b] σm s with
  | bad => rw [e] at h; exact h
  | ex x s1 => rw [e] at h; exact h
  | ok ds s1 =>
    rw [e, Zm.R.bind_ok] at h
    intro vs H1 ρ1 a1 f1 fr wd rp gd
    match ds, rp, h with
    | [x, y], rp, h =>
      have rpp := rp
      obtain ⟨vx, vy, ax, fx, ay, fy, ev, rx, ry, e12⟩ := rp.inv2
      subst ev
      refine ⟨_, _, rfl, ?_⟩
      cases eg : g s1 [x, y] with
      | none => simp only [eg, R.of_none, R.bind_bad] at h; exact h.elim
      | some z =>
        simp only [eg, R.of_some, R.bind_ok] at h
        obtain ⟨x', y', ex, q⟩ := hv ρ1 s1 H1 _ _ a1 f1 z wd rpp gd.sp eg (fun z H3 => ∃ k, z = .bl k ∧ (if k = true then rE K mg W c σ H3 fun w' H4 => r' vy w' H4 Q else Q (.bl false) H3)) fun v H2 a' f' sm rz ou => by
          have fr2 : Fr c0 H H2 ρ ρ1 := fr.tr (Fr.of_same sm)
          cases z <;> first | exact (h.elim) | skip
          rename_i k
          cases rz
          refine ⟨k, rfl, ?_⟩
          cases k with
          | false => exact iteF (h (.bl false) H2 ρ1 c0 c0 fr2 (wd.same sm) (.bl (fun _ => rfl) (fun _ => rfl)) (.zero (fun _ => rfl) (fun _ => rfl)))
          | true =>
            refine iteT ⟨σm, s1, ρ1, A, F, rel.next fr2 (wd.same sm), ?_⟩
            cases ec : c σm s1 with
            | bad => simp only [ec, R.bind_bad] at h; exact h
            | ex x s2 => simp only [ec, R.bind_ex] at h; exact oE.step fr2 h
            | ok w s2 =>
              simp only [ec, R.bind_ok] at h
              intro vw H3 ρ3 a3 f3 fr3 wd3 rw3 g3
              cases eg' : g' s2 [y, w] with
              | none => simp only [eg', R.of_none] at h; exact h.elim
              | some zz =>
                simp only [eg', R.of_some] at h
                have ry3 : Rep K mg H3 ρ3 y vy ay fy := (ry.sm sm).on fr3
                -- the counts of y and w together
                have gy : Gd A F H ay fy := fun p => by
                  obtain ⟨g1, g2, g3⟩ := gd p
                  have q1 := e12 p
                  have i1 : ay p ≤ a1 p := by omega
                  have i2 : fy p ≤ f1 p := by omega
                  exact ⟨by omega, fun z => ⟨by have := (g2 (by omega)).1; omega, (g2 (by omega)).2⟩, fun z => g3 (by omega)⟩
                have g3' : Gd A F H a3 f3 := Gd.step fr2 g3
                have gg : Gd A F H (fun p => ay p + (a3 p + 0)) (fun p => fy p + (f3 p + 0)) := fun p => by
                  obtain ⟨p1, p2, p3⟩ := gy p
                  obtain ⟨q1, q2, q3⟩ := g3 p
                  have th := (ry.sm sm).there p
                  have ev := rel.env.there p
                  have n1 : H2 p = none → H p = none := fr2.there p
                  dsimp only
                  by_cases ha : 1 ≤ ay p
                  · obtain ⟨⟨o, ho⟩, _⟩ := th (by omega)
                    have z2 : a3 p = 0 := by
                      cases q : a3 p with
                      | zero => rfl
                      | succ k => have := (q2 (by omega)).2; rw [ho] at this; cases this
                    have z3 : f3 p = 0 := by
                      cases q : f3 p with
                      | zero => rfl
                      | succ k =>
                        have hn := (p2 ha).2
                        rcases q3 (by omega) with z | z | z
                        · obtain ⟨⟨o', ho'⟩, _⟩ := ev (by omega); rw [hn] at ho'; cases ho'
                        · obtain ⟨⟨o', ho'⟩, _⟩ := ev (by omega); rw [hn] at ho'; cases ho'
                        · rw [ho] at z; cases z
                    have := p2 ha
                    exact ⟨by omega, fun _ => ⟨by omega, this.2⟩, fun h => by omega⟩
                  · refine ⟨by omega, fun h => ?_, fun h => ?_⟩
                    · have z := q2 (by omega)
                      have zf : fy p = 0 := by
                        cases q : fy p with
                        | zero => rfl
                        | succ k => obtain ⟨⟨o, ho⟩, _⟩ := th (by omega); rw [z.2] at ho; cases ho
                      exact ⟨by omega, n1 z.2⟩
                    · by_cases z : 1 ≤ fy p
                      · exact p3 z
                      · rcases q3 (by omega) with y | y | y
                        · exact .inl y
                        · exact .inr (.inl y)
                        · exact .inr (.inr (n1 y))
                obtain ⟨x2, y2, ex2, q2⟩ := hv' ρ3 s2 H3 [y, w] [vy, vw] _ _ zz wd3 (.cons ry3 (Reps.cons rw3 (.nil (A := c0) (F := c0) (fun _ => rfl) (fun _ => rfl)) (A := fun p => a3 p + 0) (F := fun p => f3 p + 0) (fun _ => rfl) (fun _ => rfl)) (A := fun p => ay p + (a3 p + 0)) (F := fun p => fy p + (f3 p + 0)) (fun _ => rfl) (fun _ => rfl)) gg.sp eg' Q
                  fun v H4 a' f' sm4 rz4 ou4 => h v H4 ρ3 a' f' ((fr2.tr fr3).tr (Fr.of_same sm4)) (wd3.same sm4) rz4 (gg.out (fr2.tr fr3) ou4)
                cases ex2
                exact q2
        cases ex
        exact q
end
section
variable {X : Cx} {W : WX} {e : Expr} {es : List Expr} {m ma mb mc : M} {t u : T} {pos : Pos} {rest : List Expr} {a b c : Expr}
theorem st_val (h : SE X W e m) (he : ∀ whole, isTrue e X.env whole = (do let v ← whole; standAt e.pos; holding [v] (truthy v)) := by intro _; rfl) : ST X W e (tV m) := PT.imp (pt_val h he) fun σ H Q q => rT_val q
theorem st_cmp {op : CmpOp} {r : R2} {g : Sto → List D → Option D} (ho : OpR X (compareOp op) r) (hv : OpV X.K X.mg (r2 r) g) (ha : SE X W a ma) (hb : SE X W b mb) (hm : behindInMarks op b = false := by first | exact nomark _ | rfl) : ST X W (.Compare a [op] [b] pos) (tV (mOp g [ma, mb])) :=
  PT.imp (pt_cmpR ho ha hb hm) fun σ H Q h => rE_mono (rA_2 (rA_op hv (rT_val h))) fun v H1 q => rE_mono q fun u H2 ⟨x, y, e, z⟩ => by cases e; exact z
theorem sw_or1 (ha : ST X W a t) : SW X W (.BoolOp .Or [a] pos) t := pw_or1 ha
theorem sw_or (ha : ST X W a t) (hb : SW X W (.BoolOp .Or (b :: rest) pos) u) : SW X W (.BoolOp .Or (a :: b :: rest) pos) (tOr t u) := PW.imp (pw_or ha hb) fun σ H Q h => rT_or h
theorem SW.st (h : SW X W e t) : ST X W e t := PW.pt h
theorem st_not (h : ST X W a t) : ST X W (.UnaryOp .Not a pos) (tNot t) := PT.imp (pt_not h) fun σ H Q q => rT_not q
theorem s_if (hc : ST X W c t) (ha : SE X W a ma) (hb : SE X W b mb) : SE X W (.IfExp c a b pos) (mIfE t ma mb) := PE.imp (pe_ifExp hc ha hb) fun σ H Q q => rE_if q
theorem s_one {op} (h : SE X W a ma) : SE X W (.BoolOp op [a] pos) ma := pe_one h
theorem s_and (ha : SE X W a ma) (hb : SE X W (.BoolOp .And (b :: rest) pos) mb) : SE X W (.BoolOp .And (a :: b :: rest) pos) (mAnd ma mb) := PE.imp (pe_and ha hb) fun σ H Q q => rE_and q
theorem s_not (ha : SE X W a ma) : SE X W (.UnaryOp .Not a pos) (mNot ma) := PE.imp (pe_not ha) fun σ H Q q => rE_not q
theorem s_chain {op op' : CmpOp} {r r' : R2} {g g' : Sto → List D → Option D} (ho : OpR X (compareOp op) r) (ho' : OpR X (compareOp op') r') (hv : OpV X.K X.mg (r2 r) g) (hv' : OpV X.K X.mg (r2 r') g') (ha : SE X W a ma) (hb : SE X W b mb) (hc : SE X W c mc)
    (h1 : behindInMarks op' c = false := by first | exact nomark _ | rfl) : SE X W (.Compare a [op, op'] [b, c] pos) (mChain g g' ma mb mc) :=
  PE.imp (pe_chain ho ho' ha hb hc h1) fun σ H Q h => rE_mono (rA_2 (rE_chain hv hv' h)) fun v H1 q => rE_mono q fun u H2 ⟨x, y, e, z⟩ => by cases e; exact z
theorem st_chain {op op' : CmpOp} {r r' : R2} {g g' : Sto → List D → Option D} (ho : OpR X (compareOp op) r) (ho' : OpR X (compareOp op') r') (hv : OpV X.K X.mg (r2 r) g) (hv' : OpV X.K X.mg (r2 r') g') (ha : SE X W a ma) (hb : SE X W b mb) (hc : SE X W c mc)
    (h1 : behindInMarks op' c = false := by first | exact nomark _ | rfl) : ST X W (.Compare a [op, op'] [b, c] pos) (tV (mChain g g' ma mb mc)) :=
  PT.imp (pt_chain ho ho' ha hb hc h1) fun σ H Q h => rE_mono (rA_2 (rE_chain hv hv' (rT_val h))) fun v H1 q => rE_mono q fun u H2 ⟨x, y, e, z⟩ => by cases e; exact z
end
end Zm
set_option Elab.async false
set_option linter.all false
set_option maxRecDepth 100000
set_option autoImplicit false
/-! Z3: statements. -/
namespace Zm
open PySem PySem.Spec PyProof.Rows L2
inductive RS where
  | nx (σ : Env) (s : Sto) | rt (d : D) (s : Sto) | bk (σ : Env) (s : Sto) | ct (σ : Env) (s : Sto) | ex (x : Xc) (σ : Env) (s : Sto) | bad
abbrev MS := Env → Sto → RS
def R.to {α : Type} (r : R α) (σ : Env) (k : α → Sto → RS) : RS := match r with
  | .ok a s => k a s
  | .ex x s => .ex x σ s
  | .bad => .bad
@[simp] theorem R.to_ok {α : Type} {a : α} {s : Sto} {σ : Env} {k : α → Sto → RS} : (R.ok a s).to σ k = k a s := rfl
@[simp] theorem R.to_ex {α : Type} {x : Xc} {s : Sto} {σ : Env} {k : α → Sto → RS} : (R.ex x s : R α).to σ k = .ex x σ s := rfl
@[simp] theorem R.to_bad {α : Type} {σ : Env} {k : α → Sto → RS} : (R.bad : R α).to σ k = .bad := rfl
def RS.then (r : RS) (k : Env → Sto → RS) : RS := match r with
  | .nx σ s => k σ s
  | r => r
@[simp] theorem RS.then_nx {σ : Env} {s : Sto} {k : Env → Sto → RS} : (RS.nx σ s).then k = k σ s := rfl
@[simp] theorem RS.then_rt {d : D} {s : Sto} {k : Env → Sto → RS} : (RS.rt d s).then k = .rt d s := rfl
@[simp] theorem RS.then_bk {σ : Env} {s : Sto} {k : Env → Sto → RS} : (RS.bk σ s).then k = .bk σ s := rfl
@[simp] theorem RS.then_ct {σ : Env} {s : Sto} {k : Env → Sto → RS} : (RS.ct σ s).then k = .ct σ s := rfl
@[simp] theorem RS.then_ex {x : Xc} {σ : Env} {s : Sto} {k : Env → Sto → RS} : (RS.ex x σ s).then k = .ex x σ s := rfl
@[simp] theorem RS.then_bad {k : Env → Sto → RS} : RS.bad.then k = .bad := rfl
/-- what may newly be held, as against before -/
def Nx (A F : Cnt) (H : Hp) (A' F' : Cnt) : Prop := ∀ x, (1 ≤ A' x → 1 ≤ A x ∨ H x = none) ∧ (1 ≤ F' x → 1 ≤ A x ∨ 1 ≤ F x ∨ H x = none)
section
variable {K : PySem.W.Frag} {mg : Str → Option Value} {W : WX} {H H' H1 : Hp} {ρ ρ' ρ1 : List Addr} {σm : Env} {σ : L2.St} {s s' s1 : Sto} {d e : D} {ds es : List D} {v : V} {vs ws : List V} {A F A' F' A1 F1 a f Mc : Cnt}
theorem Nx.refl : Nx A F H A F := fun x => ⟨fun h => .inl h, fun h => .inr (.inl h)⟩
theorem Nx.trans (n : Nx A F H A1 F1) (fr : Fr A H H1 ρ ρ1) (m : Nx A1 F1 H1 A' F') : Nx A F H A' F' := fun x => by
  obtain ⟨p, q⟩ := n x
  obtain ⟨r, t⟩ := m x
  refine ⟨fun h => ?_, fun h => ?_⟩
  · rcases r h with z | z
    · exact p z
    · exact .inr (fr.there x z)
  · rcases t h with z | z | z
    · rcases p z with y | y
      · exact .inl y
      · exact .inr (.inr y)
    · exact q z
    · exact .inr (.inr (fr.there x z))
theorem Fr.thenN (fr : Fr A H H1 ρ ρ1) (n : Nx A F H A1 F1) (fr2 : Fr A1 H1 H' ρ1 ρ') : Fr A H H' ρ ρ' := fr.trans fr2 fun x h => (n x).1 h
theorem Fr.up (fr : Fr c0 H H1 ρ ρ1) : Fr A H H1 ρ ρ1 := fr.mono fun _ h => no0 h
section
variable (K : PySem.W.Frag) (mg : Str → Option Value) (W : WX) (A F : Cnt) (H : Hp) (ρ : List Addr)
def oS (D : Ends) : RS → Prop
  | .nx σm' s' => ∀ σ' H' ρ' A' F', Fr A H H' ρ ρ' → Rel K mg σm' s' σ' H' ρ' A' F' → Nx A F H A' F' → D.nx σ' H'
  | .bk σm' s' => ∀ σ' H' ρ' A' F', Fr A H H' ρ ρ' → Rel K mg σm' s' σ' H' ρ' A' F' → Nx A F H A' F' → D.bk σ' H'
  | .ct σm' s' => ∀ σ' H' ρ' A' F', Fr A H H' ρ ρ' → Rel K mg σm' s' σ' H' ρ' A' F' → Nx A F H A' F' → D.ct σ' H'
  | .rt d s' => ∀ v H' ρ' a f, Fr A H H' ρ ρ' → Wd K mg ρ' s' H' → Rep K mg H' ρ' d v a f → Out A F H a f → D.rt v H'
  | .ex x σm' s' => ∀ cls dd σ' H' ρ' A' F', Fr A H H' ρ ρ' → Rel K mg σm' s' σ' H' ρ' A' F' → Nx A F H A' F' → RepX mg H' x cls dd → W cls dd σ' H'
  | .bad => False
end
variable (K mg W) in
def rS (m : MS) : TS := fun D σ H => ∃ σm s ρ A F, Rel K mg σm s σ H ρ A F ∧ oS K mg W A F H ρ D (m σm s)
theorem Out.stepN (fr : Fr A H H1 ρ ρ1) (n : Nx A F H A1 F1) (o : Out A1 F1 H1 a f) : Out A F H a f := fun x => by
  obtain ⟨p, q, r⟩ := o x
  refine ⟨p, fun h => ⟨(q h).1, ?_⟩, fun h => ?_⟩
  · rcases (q h).2 with z | z
    · exact .inl (fr.there x z)
    · exact ((n x).1 z).elim .inr .inl
  · rcases r h with z | z | z
    · exact ((n x).1 z).elim .inl fun z => .inr (.inr z)
    · exact (n x).2 z
    · exact .inr (.inr (fr.there x z))
theorem oS.step {D : Ends} {r : RS} (fr : Fr A H H1 ρ ρ1) (n : Nx A F H A1 F1) (h : oS K mg W A F H ρ D r) : oS K mg W A1 F1 H1 ρ1 D r := by
  cases r with
  | bad => exact h
  | nx σ s => exact fun σ' H' ρ' A' F' fr' r' n' => h σ' H' ρ' A' F' (fr.thenN n fr') r' (n.trans fr n')
  | bk σ s => exact fun σ' H' ρ' A' F' fr' r' n' => h σ' H' ρ' A' F' (fr.thenN n fr') r' (n.trans fr n')
  | ct σ s => exact fun σ' H' ρ' A' F' fr' r' n' => h σ' H' ρ' A' F' (fr.thenN n fr') r' (n.trans fr n')
  | rt d s => exact fun v H' ρ' a f fr' wd rp o => h v H' ρ' a f (fr.thenN n fr') wd rp (o.stepN fr n)
  | ex x σ s => exact fun cls dd σ' H' ρ' A' F' fr' r' n' => h cls dd σ' H' ρ' A' F' (fr.thenN n fr') r' (n.trans fr n')
theorem oS.imp {D D' : Ends} {r : RS} (h : oS K mg W A F H ρ D r) (h1 : ∀ σ H, D.nx σ H → D'.nx σ H) (h2 : ∀ v H, D.rt v H → D'.rt v H) (h3 : ∀ σ H, D.bk σ H → D'.bk σ H) (h4 : ∀ σ H, D.ct σ H → D'.ct σ H) : oS K mg W A F H ρ D' r := by
  cases r with
  | bad => exact h
  | nx σ s => exact fun σ' H' ρ' A' F' a b c => h1 _ _ (h σ' H' ρ' A' F' a b c)
  | bk σ s => exact fun σ' H' ρ' A' F' a b c => h3 _ _ (h σ' H' ρ' A' F' a b c)
  | ct σ s => exact fun σ' H' ρ' A' F' a b c => h4 _ _ (h σ' H' ρ' A' F' a b c)
  | rt d s => exact fun v H' ρ' a f b c d e => h2 _ _ (h v H' ρ' a f b c d e)
  | ex x σ s => exact h
end
end Zm
namespace Zm
open PySem PySem.Spec PyProof.Rows L2
def SS (X : Cx) (W : WX) (e : Stmt) (m : MS) : Prop := PS X e (rS X.K X.mg W m)
def SSs (X : Cx) (W : WX) (e : List Stmt) (m : MS) : Prop := PSs X e (rS X.K X.mg W m)
@[simp] def mNil : MS := fun σ s => .nx σ s
@[simp] def mSeq (a b : MS) : MS := fun σ s => (a σ s).then b
def mSet (i : Nat) (m : M) : MS := fun σ s => (m σ s).to σ fun d s' => if noF d = true ∧ i < σ.length then .nx (σ.set i (some d)) s' else .bad
/-- a mask's slots alone; its slots frozen -/
@[simp] def restr : List Bool → Env → Env
  | [], σ => σ.map fun _ => none
  | _, [] => []
  | b :: bs, o :: σ => (if b = true then o else none) :: restr bs σ
@[simp] def frzE : List Bool → Env → Env
  | [], σ => σ
  | _, [] => []
  | b :: bs, o :: σ => (if b = true then o.map fz else o) :: frzE bs σ
def mSetF (msk : List Bool) (i : Nat) (m : M) : MS := fun σ s => (m (restr msk σ) s).to σ fun d s' => if i < σ.length then .nx ((frzE msk σ).set i (some (fz d))) s' else .bad
@[simp] def mIf (t : T) (a b : MS) : MS := fun σ s => (t σ s).to σ fun c s' => if c = true then a σ s' else b σ s'
@[simp] def mRet (m : M) : MS := fun σ s => (m σ s).to σ fun d s' => .rt d s'
@[simp] def mRetN : MS := fun _ s => .rt .non s
def mRetV (i : Nat) : MS := fun σ s => match σ[i]? with
  | some (some d) => .rt d s
  | _ => .bad
@[simp] def mDo (m : M) : MS := fun σ s => (m σ s).to σ fun _ s' => .nx σ s'
@[simp] def mBreak : MS := fun σ s => .bk σ s
@[simp] def mCont : MS := fun σ s => .ct σ s
def mApp (i : Nat) (m : M) : MS := fun σ s => match σ[i]? with
  | some (some (.lst true xs)) => (m σ s).to σ fun d s' => if xs.length < sizeLine ∧ noF d = true then .nx (σ.set i (some (.lst true (xs ++ [d])))) s' else .bad
  | _ => .bad
section
variable {K : PySem.W.Frag} {mg : Str → Option Value} {W : WX} {H H' H1 : Hp} {ρ ρ' ρ1 : List Addr} {σm : Env} {σ : L2.St} {s s' s1 : Sto} {d e : D} {v : V} {A F A' F' A1 F1 a f Mc : Cnt}
theorem frzE_length : ∀ {msk : List Bool} {σ : Env}, (frzE msk σ).length = σ.length
  | [], σ => by simp [frzE]
  | _ :: _, [] => by simp [frzE]
  | b :: bs, o :: σ => by simp [frzE, frzE_length (msk := bs) (σ := σ)]
/-- the slots in two parts: those of the mask may be frozen -/
theorem EnvR.none_of : ∀ {σm : Env} {σ : L2.St} {A F : Cnt}, EnvR K mg H ρ σm σ A F → EnvR K mg H ρ (σm.map fun _ => none) σ c0 c0
  | _, _, _, _, .nil _ _ => .nil (fun _ => rfl) (fun _ => rfl)
  | _, _, _, _, .no t => .no (EnvR.none_of t)
  | _, _, _, _, .yes _ t _ _ => .no (EnvR.none_of t)
theorem EnvR.mask : ∀ {msk : List Bool} {σm : Env} {σ : L2.St} {A F : Cnt}, EnvR K mg H ρ σm σ A F →
    ∃ Am Fm Ar F2, EnvR K mg H ρ (restr msk σm) σ Am Fm ∧ EnvR K mg H ρ (frzE msk σm) σ Ar F2 ∧ ∀ x, A x = Am x + Ar x ∧ Fm x ≤ F x ∧ (1 ≤ F2 x → 1 ≤ F x ∨ 1 ≤ Am x)
  | [], σm, σ, A, F, h => by
    refine ⟨c0, c0, A, F, ?_, by rw [frzE]; exact h, fun x => ⟨by simp [c0], by simp [c0], fun z => .inl z⟩⟩
    rw [restr]; exact h.none_of
  | b :: bs, _, _, A, F, .nil a f => ⟨A, F, c0, c0, .nil a f, .nil (fun _ => rfl) (fun _ => rfl), fun x => ⟨by simp [c0], Nat.le_refl _, fun z => no0 z⟩⟩
  | b :: bs, _, _, _, _, .no t => by
    obtain ⟨Am, Fm, Ar, F2, r1, r2, q⟩ := EnvR.mask (msk := bs) t
    refine ⟨Am, Fm, Ar, F2, ?_, ?_, q⟩
    · rw [restr]; split <;> exact .no r1
    · rw [frzE]; split <;> exact .no r2
  | true :: bs, _, _, _, _, .yes (a := a) (f := f) h t e1 e2 => by
    obtain ⟨Am, Fm, Ar, F2, r1, r2, q⟩ := EnvR.mask (msk := bs) t
    obtain ⟨f', h', q'⟩ := h.fz
    refine ⟨_, _, Ar, _, .yes h r1 (fun _ => rfl) (fun _ => rfl), .yes h' r2 (fun x => by show Ar x = c0 x + Ar x; simp [c0]) (fun _ => rfl), fun x => ?_⟩
    have z := q x
    have z' := q' x
    rw [e1, e2]
    refine ⟨by omega, by omega, fun y => ?_⟩
    have y : 1 ≤ f' x + F2 x := y
    by_cases w : 1 ≤ f' x
    · have := z' w; omega
    · have := z.2.2 (by omega); omega
  | false :: bs, _, _, _, _, .yes (a := a) (f := f) h t e1 e2 => by
    obtain ⟨Am, Fm, Ar, F2, r1, r2, q⟩ := EnvR.mask (msk := bs) t
    refine ⟨Am, Fm, _, _, .no r1, .yes h r2 (fun _ => rfl) (fun _ => rfl), fun x => ?_⟩
    have z := q x
    rw [e1, e2]
    refine ⟨by omega, by omega, fun y => ?_⟩
    have y : 1 ≤ f x + F2 x := y
    by_cases w : 1 ≤ f x
    · omega
    · have := z.2.2 (by omega); omega
/-- a slot stored with what is not frozen -/
theorem Rel.set (rel : Rel K mg σm s σ H ρ A F) (fr : Fr c0 H H1 ρ ρ1) (wd : Wd K mg ρ1 s1 H1) (rp : Rep K mg H1 ρ1 d v a f) (g : Gd A F H a f) (hf : ∀ x, f x = 0) (i : Nat) (hi : i < σm.length) :
    ∃ A' F', Rel K mg (σm.set i (some d)) s1 (σ.set i (some v)) H1 ρ1 A' F' ∧ Nx A F H A' F' := by
  have r1 := rel.next fr wd
  obtain ⟨A', F', e', le, _⟩ := r1.env.set i rp hi
  have ev := rel.env.there
  refine ⟨A', F', ⟨e', wd, fun x => ?_⟩, fun x => ?_⟩
  · have := le x
    have s0 := rel.sep x
    obtain ⟨g1, g2, g3⟩ := g x
    have h0 := hf x
    by_cases z : 1 ≤ a x
    · have hn := (g2 z).2
      have q : ¬ 1 ≤ A x + F x := fun y => by obtain ⟨⟨o, ho⟩, _⟩ := ev x y; rw [hn] at ho; cases ho
      omega
    · refine ⟨by omega, fun y => ?_⟩
      have := s0.2 (by omega)
      omega
  · have := le x
    have h0 := hf x
    obtain ⟨g1, g2, g3⟩ := g x
    refine ⟨fun y => ?_, fun y => by omega⟩
    by_cases z : 1 ≤ a x
    · exact .inr (g2 z).2
    · exact .inl (by omega)
/-- a slot stored with what may be frozen, the mask's slots frozen -/
theorem Rel.setF {msk : List Bool} {Am Fm Ar F2 : Cnt} (rel : Rel K mg σm s σ H ρ A F) (r2 : EnvR K mg H ρ (frzE msk σm) σ Ar F2) (q : ∀ x, A x = Am x + Ar x ∧ Fm x ≤ F x ∧ (1 ≤ F2 x → 1 ≤ F x ∨ 1 ≤ Am x))
    (fr : Fr c0 H H1 ρ ρ1) (wd : Wd K mg ρ1 s1 H1) (rp : Rep K mg H1 ρ1 d v a f) (g : Gd Am Fm H a f) (i : Nat) (hi : i < σm.length) :
    ∃ A' F', Rel K mg ((frzE msk σm).set i (some (fz d))) s1 (σ.set i (some v)) H1 ρ1 A' F' ∧ Nx A F H A' F' := by
  obtain ⟨f', rp', qf⟩ := rp.fz
  have e1 := r2.frame fr fun _ hx => no0 hx
  obtain ⟨A', F', e', le, _⟩ := e1.set i rp' (by rw [frzE_length]; exact hi)
  have ev := rel.env.there
  have key : ∀ x, 1 ≤ f' x → 1 ≤ Am x ∨ 1 ≤ Fm x ∨ H x = none := fun x h => by
    have := qf x h
    obtain ⟨g1, g2, g3⟩ := g x
    by_cases z : 1 ≤ a x
    · exact .inr (.inr (g2 z).2)
    · exact g3 (by omega)
  refine ⟨A', F', ⟨e', wd, fun x => ?_⟩, fun x => ?_⟩
  · have l := le x
    have l1 : A' x ≤ Ar x + 0 := l.1
    have l2 := l.2
    have s0 := rel.sep x
    have q0 := q x
    refine ⟨by omega, fun y => ?_⟩
    have hA : 1 ≤ A x := by omega
    have hF := s0.2 hA
    obtain ⟨⟨o, ho⟩, _⟩ := ev x (by omega)
    have h1 : F2 x = 0 := by
      cases z : F2 x with
      | zero => rfl
      | succ k => have := q0.2.2 (by omega); omega
    have h2 : f' x = 0 := by
      cases z : f' x with
      | zero => rfl
      | succ k =>
        rcases key x (by omega) with w | w | w
        · omega
        · omega
        · rw [w] at ho; cases ho
    omega
  · have l := le x
    have l1 : A' x ≤ Ar x + 0 := l.1
    have q0 := q x
    refine ⟨fun y => .inl (by omega), fun y => ?_⟩
    by_cases z : 1 ≤ f' x
    · rcases key x z with w | w | w
      · exact .inl (by omega)
      · exact .inr (.inl (by omega))
      · exact .inr (.inr w)
    · have := q0.2.2 (by omega)
      omega
theorem Rel.mask {msk : List Bool} (rel : Rel K mg σm s σ H ρ A F) : ∃ Am Fm Ar F2, Rel K mg (restr msk σm) s σ H ρ Am Fm ∧ EnvR K mg H ρ (frzE msk σm) σ Ar F2 ∧ ∀ x, A x = Am x + Ar x ∧ Fm x ≤ F x ∧ (1 ≤ F2 x → 1 ≤ F x ∨ 1 ≤ Am x) := by
  obtain ⟨Am, Fm, Ar, F2, r1, r2, q⟩ := EnvR.mask (msk := msk) rel.env
  exact ⟨Am, Fm, Ar, F2, ⟨r1, rel.wd, fun x => by have := rel.sep x; have := q x; exact ⟨by omega, fun z => by have := (rel.sep x).2 (by omega); omega⟩⟩, r2, q⟩
theorem EnvR.take : ∀ {σm : Env} {σ : L2.St} {A F : Cnt} {i : Nat} {d : D}, EnvR K mg H ρ σm σ A F → σm[i]? = some (some d) →
    ∃ v a f A2 F2, σ[i]? = some (some v) ∧ Rep K mg H ρ d v a f ∧ EnvR K mg H ρ (σm.set i none) σ A2 F2 ∧ ∀ x, A x = a x + A2 x ∧ F x = f x + F2 x
  | _, _, _, _, i, _, .nil _ _, e => by simp at e
  | _, _, _, _, 0, _, .no _, e => by simp at e
  | _, _, _, _, i + 1, _, .no t, e => by
    obtain ⟨v, a, f, A2, F2, q1, q2, q3, q4⟩ := EnvR.take t (i := i) (by simpa using e)
    exact ⟨v, a, f, A2, F2, by simpa using q1, q2, .no q3, q4⟩
  | _, _, _, _, 0, _, .yes h t e1 e2, e => by
    simp at e; subst e
    exact ⟨_, _, _, _, _, rfl, h, .no t, fun x => ⟨e1 x, e2 x⟩⟩
  | _, _, _, _, i + 1, _, .yes h t e1 e2, e => by
    obtain ⟨v, a, f, A2, F2, q1, q2, q3, q4⟩ := EnvR.take t (i := i) (by simpa using e)
    exact ⟨v, a, f, _, _, by simpa using q1, q2, .yes h q3 (fun _ => rfl) (fun _ => rfl), fun x => by have := q4 x; rw [e1, e2]; omega⟩
theorem EnvR.put : ∀ {σm : Env} {σ : L2.St} {A F : Cnt} {i : Nat} {d : D} {v : V} {a f : Cnt}, EnvR K mg H ρ σm σ A F → σm[i]? = some none → σ[i]? = some (some v) → Rep K mg H ρ d v a f →
    EnvR K mg H ρ (σm.set i (some d)) σ (fun x => a x + A x) (fun x => f x + F x)
  | _, _, _, _, i, _, _, _, _, .nil _ _, e, _, _ => by simp at e
  | _, _, _, _, 0, _, _, _, _, .no t, _, e, r => by
    simp at e; subst e
    exact .yes r t (fun _ => rfl) (fun _ => rfl)
  | _, _, _, _, i + 1, _, _, _, _, .no t, e1, e2, r => .no (EnvR.put t (by simpa using e1) (by simpa using e2) r)
  | _, _, _, _, 0, _, _, _, _, .yes h t _ _, e, _, _ => by simp at e
  | _, _, _, _, i + 1, _, _, _, _, .yes h t e1 e2, q1, q2, r => .yes h (EnvR.put t (by simpa using q1) (by simpa using q2) r) (fun x => by rw [e1]; omega) (fun x => by rw [e2]; omega)
/-- an owned list at a slot, to be written -/
theorem Rel.wr (rel : Rel K mg σm s σ H ρ A F) {i : Nat} {xs : List D} (hi : σm[i]? = some (some (.lst true xs))) :
    ∃ (p : Addr) (vs : List V) (a1 f1 A2 F2 : Cnt), σ[i]? = some (some (.ref p)) ∧ H p = some (.lst vs) ∧ Reps K mg H ρ xs vs a1 f1 ∧ (∀ x, A x = cp p x + a1 x + A2 x ∧ F x = f1 x + F2 x) ∧
      ∀ (H1 : Hp) (ρ1 : List Addr) (s1 : Sto) (xs' : List D) (vs' : List V) (a' f' : Cnt), Fr c0 H H1 ρ ρ1 → Wd K mg ρ1 s1 H1 → Reps K mg H1 ρ1 xs' vs' a' f' → (∀ x, cp p x + a' x + A2 x ≤ 1 ∧ (1 ≤ cp p x + a' x + A2 x → f' x + F2 x = 0)) →
        H1 p = some (.lst vs) ∧ Fr A H (upd H1 p (.lst vs')) ρ ρ1 ∧ Rel K mg (σm.set i (some (.lst true xs'))) s1 σ (upd H1 p (.lst vs')) ρ1 (fun x => cp p x + a' x + A2 x) (fun x => f' x + F2 x) := by
  obtain ⟨w, a0, f0, A2, F2, e1, rp0, e2, q⟩ := rel.env.take hi
  cases rp0 with
  | own hp hn t e =>
    rename_i p vs a1
    have hil : i < σm.length := (List.getElem?_eq_some_iff.mp hi).1
    refine ⟨p, vs, a1, f0, A2, F2, e1, hp, t, fun x => by have := q x; rw [e] at this; exact this, fun H1 ρ1 s1 xs' vs' a' f' fr wd r' hs => ?_⟩
    have hAp : 1 ≤ A p := by have := (q p).1; rw [e p, cp_same] at this; omega
    have hp1 : H1 p = some (.lst vs) := by
      rcases fr.keep p _ hp with z | ⟨_, z | z⟩
      · exact z
      · exact (hn z).elim
      · exact no0 z
    have hn1 : p ∉ ρ1 := fr.nmem hp hn
    have fr1 : Fr (cp p) H1 (upd H1 p (.lst vs')) ρ1 ρ1 := by
      refine ⟨fun x o q => ?_, fun x q => ?_, [], by simp, by simp⟩
      · by_cases z : x = p
        · subst z
          rw [hp1] at q; cases q
          exact .inr ⟨trivial, .inr (by rw [cp_same]; omega)⟩
        · rw [upd_ne z]; exact .inl q
      · by_cases z : x = p
        · subst z; rw [upd_same] at q; cases q
        · rw [upd_ne z] at q; exact q
    have hs0 := hs p
    rw [cp_same] at hs0
    have out : ∀ x, 1 ≤ cp p x → (a' x = 0 ∧ f' x = 0) ∧ A2 x = 0 ∧ F2 x = 0 := fun x hx => by
      by_cases z : x = p
      · subst z
        have := hs0.2 (by omega)
        omega
      · rw [cp_ne z] at hx; omega
    refine ⟨hp1, ⟨fun x o q => ?_, fun x q => fr.there x (fr1.there x q), fr.ext⟩, ?_⟩
    · rcases fr.keep x o q with z | ⟨l, z | z⟩
      · rcases fr1.keep x o z with y | ⟨l, y | y⟩
        · exact .inl y
        · obtain ⟨r, er, nr⟩ := fr.ext
          rw [er] at y
          rcases List.mem_append.mp y with y | y
          · exact .inr ⟨l, .inl y⟩
          · rw [nr x y] at q; cases q
        · by_cases w : x = p
          · subst w; exact .inr ⟨l, .inr hAp⟩
          · rw [cp_ne w] at y; omega
      · exact .inr ⟨l, .inl z⟩
      · exact no0 z
    · have env1 := (e2.frame fr fun _ hx => no0 hx).frame fr1 fun x hx => (out x hx).2
      have new : Rep K mg (upd H1 p (.lst vs')) ρ1 (.lst true xs') (.ref p) (fun x => cp p x + a' x) f' := .own upd_same hn1 (r'.frame fr1 fun x hx => (out x hx).1) (fun _ => rfl)
      have e3 := env1.put (i := i) (by simp [hil]) e1 new
      rw [List.set_set] at e3
      refine ⟨e3, ⟨wd.len, wd.nd, fun n b ys z1 z2 => ?_⟩, hs⟩
      obtain ⟨w1, ws, a, f, w2, w3⟩ := wd.at_ n b ys z1 z2
      have nb : b ≠ p := fun z => hn1 (z ▸ List.mem_of_getElem? z1)
      have zz := w3.plain w1
      exact ⟨w1, ws, a, f, by rw [upd_ne nb]; exact w2, w3.frame fr1 fun x _ => zz x⟩
end
end Zm
set_option Elab.async false
set_option linter.all false
set_option maxRecDepth 100000
set_option autoImplicit false
/-! Z4: the rules of the plain statements. -/
namespace Zm
open PySem PySem.Spec PyProof.Rows L2
section
variable {K : PySem.W.Frag} {mg : Str → Option Value} {W : WX} {H H' H1 : Hp} {ρ ρ' ρ1 : List Addr} {σm : Env} {σ : L2.St} {s s' s1 : Sto} {d e : D} {v : V} {A F A' F' A1 F1 a f Mc : Cnt} {Ds : Ends}
theorem rE_of_to {R : VK} {m : M} {k : D → Sto → RS} (rel : Rel K mg σm s σ H ρ A F) (h : oS K mg W A F H ρ Ds ((m σm s).to σm k))
    (hk : ∀ d s1 v H1 ρ1 a f, Fr c0 H H1 ρ ρ1 → Wd K mg ρ1 s1 H1 → Rep K mg H1 ρ1 d v a f → Gd A F H a f → oS K mg W A F H ρ Ds (k d s1) → R v H1) : rE K mg W m σ H R := by
  refine ⟨σm, s, ρ, A, F, rel, ?_⟩
  cases e : m σm s with
  | bad => rw [e] at h; exact h
  | ex x s1 =>
    rw [e] at h
    exact fun cls dd H' ρ' fr wd rx => h cls dd σ H' ρ' A F fr.up (rel.next fr wd) .refl rx
  | ok d s1 =>
    rw [e] at h
    exact fun v H1 ρ1 a f fr wd rp g => hk d s1 v H1 ρ1 a f fr wd rp g h
theorem rEF_of_to {R : VK} {m : M} {k : D → Sto → RS} {msk : List Bool} (rel : Rel K mg σm s σ H ρ A F) (h : oS K mg W A F H ρ Ds ((m (restr msk σm) s).to σm k))
    (hk : ∀ d s1 v H1 ρ1 a f Am Fm Ar F2, Fr c0 H H1 ρ ρ1 → Wd K mg ρ1 s1 H1 → Rep K mg H1 ρ1 d v a f → Gd Am Fm H a f → EnvR K mg H ρ (frzE msk σm) σ Ar F2 → (∀ x, A x = Am x + Ar x ∧ Fm x ≤ F x ∧ (1 ≤ F2 x → 1 ≤ F x ∨ 1 ≤ Am x)) → oS K mg W A F H ρ Ds (k d s1) → R v H1) : rE K mg W m σ H R := by
  obtain ⟨Am, Fm, Ar, F2, r1, r2, q⟩ := rel.mask (msk := msk)
  refine ⟨_, s, ρ, Am, Fm, r1, ?_⟩
  cases e : m (restr msk σm) s with
  | bad => rw [e] at h; exact h
  | ex x s1 =>
    rw [e] at h
    exact fun cls dd H' ρ' fr wd rx => h cls dd σ H' ρ' A F fr.up (rel.next fr wd) .refl rx
  | ok d s1 =>
    rw [e] at h
    exact fun v H1 ρ1 a f fr wd rp g => hk d s1 v H1 ρ1 a f Am Fm Ar F2 fr wd rp g r2 q h
theorem rT_of_to {R : Bool → Hp → Prop} {t : T} {k : Bool → Sto → RS} (rel : Rel K mg σm s σ H ρ A F) (h : oS K mg W A F H ρ Ds ((t σm s).to σm k))
    (hk : ∀ b s1 H1 ρ1, Fr c0 H H1 ρ ρ1 → Wd K mg ρ1 s1 H1 → oS K mg W A F H ρ Ds (k b s1) → R b H1) : rT K mg W t σ H R := by
  refine ⟨σm, s, ρ, A, F, rel, ?_⟩
  cases e : t σm s with
  | bad => rw [e] at h; exact h
  | ex x s1 =>
    rw [e] at h
    exact fun cls dd H' ρ' fr wd rx => h cls dd σ H' ρ' A F fr.up (rel.next fr wd) .refl rx
  | ok d s1 =>
    rw [e] at h
    exact fun H1 ρ1 fr wd => hk d s1 H1 ρ1 fr wd h
theorem rS_seq {a b : MS} (h : rS K mg W (mSeq a b) Ds σ H) : rS K mg W a { Ds with nx := rS K mg W b Ds } σ H := by
  obtain ⟨σm, s, ρ, A, F, rel, h⟩ := h
  refine ⟨σm, s, ρ, A, F, rel, ?_⟩
  unfold mSeq at h
  cases e : a σm s with
  | nx σ1 s1 =>
    rw [e] at h
    exact fun σ' H' ρ' A' F' fr rel' n => ⟨σ1, s1, ρ', A', F', rel', oS.step fr n h⟩
  | rt d s => rw [e] at h; exact h
  | bk σ s => rw [e] at h; exact h
  | ct σ s => rw [e] at h; exact h
  | ex x σ s => rw [e] at h; exact h
  | bad => rw [e] at h; exact h
end
section
variable {X : Cx} {W : WX} {st : Stmt} {sts : List Stmt} {e c : Expr} {m ma : M} {t : T} {a b : MS} {pos pos' : Pos} {i : Nat} {x : Str}
theorem ss_nil : SSs X W [] mNil := PSs.imp pss_nil fun D σ H ⟨σm, s, ρ, A, F, rel, h⟩ => h σ H ρ A F .refl rel .refl
theorem ss_cons (h1 : SS X W st a) (h2 : SSs X W sts b) : SSs X W (st :: sts) (mSeq a b) := PSs.imp (pss_cons h1 h2) fun D σ H h => rS_seq h
theorem ss_one (h1 : SS X W st a) : SSs X W [st] a := pss_one h1
theorem ss_do (he : SE X W e m) (hs : swapsWith e none pos.line X.env = pure false := by rfl) : SS X W (.Expr e pos) (mDo m) :=
  PS.imp (ps_expr he hs) fun D σ H ⟨σm, s, ρ, A, F, rel, h⟩ => rE_of_to rel h fun d s1 v H1 ρ1 a f fr wd rp g h => h σ H1 ρ1 A F fr.up (rel.next fr wd) .refl
theorem ss_ret (he : SE X W e m) : SS X W (.Return (some e) pos) (mRet m) :=
  PS.imp (ps_ret he) fun D σ H ⟨σm, s, ρ, A, F, rel, h⟩ => rE_of_to rel h fun d s1 v H1 ρ1 a f fr wd rp g h => h v H1 ρ1 a f fr.up wd rp fun x => by
    obtain ⟨p, q, r⟩ := g x
    exact ⟨p, fun z => ⟨(q z).1, .inl (q z).2⟩, r⟩
theorem ss_retV (i : Nat) {x : Str} {pos' : Pos} (hN : X.N[i]? = some x := by rfl) (hv : Vis X.env.scope x := by first | exact Or.inl rfl | exact Or.inr (Or.inl rfl) | exact Or.inr (Or.inr rfl)) (hd : (x == ("__debug__" : Str)) = false := by decide)
    (hcd : (x == ("__classdict__" : Str)) = false := by decide) : SS X W (.Return (some (.Name x pos')) pos) (mRetV i) :=
  PS.imp (ps_ret (pe_var hN hv hd hcd)) fun D σ H ⟨σm, s, ρ, A, F, rel, h⟩ => by
    unfold mRetV at h
    cases e : σm[i]? with
    | none => rw [e] at h; exact h.elim
    | some o =>
      cases o with
      | none => rw [e] at h; exact h.elim
      | some d =>
        rw [e] at h
        obtain ⟨v, a, f, e2, rp, le⟩ := rel.env.get e
        exact ⟨v, e2, h v H ρ a f .refl rel.wd rp fun x => by
          have := le x
          have s0 := rel.sep x
          exact ⟨by omega, fun z => ⟨by have := s0.2 (by omega); omega, .inr (by omega)⟩, fun z => .inr (.inl (by omega))⟩⟩
theorem ss_if {ss ss' : List Stmt} (hc : ST X W c t) (ha : SSs X W ss a) (hb : SSs X W ss' b) : SS X W (.If c ss ss' pos) (mIf t a b) :=
  PS.imp (ps_if hc ha hb) fun D σ H ⟨σm, s, ρ, A, F, rel, h⟩ => rT_of_to rel h fun c s1 H1 ρ1 fr wd h => by
    cases c with
    | true => exact iteT ⟨σm, s1, ρ1, A, F, rel.next fr wd, oS.step fr.up .refl (by simpa using h)⟩
    | false => exact iteF ⟨σm, s1, ρ1, A, F, rel.next fr wd, oS.step fr.up .refl (by simpa using h)⟩
theorem set_end {K : PySem.W.Frag} {mg : Str → Option Value} {W : WX} {σ : L2.St} {H : Hp} {D : Ends} (h : rS K mg W (mSet i m) D σ H) : rE K mg W m σ H fun x H1 => gName i x σ H1 D.nx := by
  obtain ⟨σm, s, ρ, A, F, rel, h⟩ := h
  refine rE_of_to rel h fun d s1 v H1 ρ1 a f fr wd rp g h => ?_
  split at h
  · rename_i z
    obtain ⟨A', F', rel', n⟩ := rel.set fr wd rp g (rp.noF z.1) i z.2
    exact h _ _ _ _ _ fr.up rel' n
  · exact h.elim
theorem setF_end {K : PySem.W.Frag} {mg : Str → Option Value} {W : WX} {σ : L2.St} {H : Hp} {D : Ends} {msk : List Bool} (h : rS K mg W (mSetF msk i m) D σ H) : rE K mg W m σ H fun x H1 => gName i x σ H1 D.nx := by
  obtain ⟨σm, s, ρ, A, F, rel, h⟩ := h
  refine rEF_of_to rel h fun d s1 v H1 ρ1 a f Am Fm Ar F2 fr wd rp g r2 q h => ?_
  split at h
  · rename_i z
    obtain ⟨A', F', rel', n⟩ := rel.setF r2 q fr wd rp g i z
    exact h _ _ _ _ _ fr.up rel' n
  · exact h.elim
/-! ### x.append(e) -/
theorem Rel.app {K : PySem.W.Frag} {mg : Str → Option Value} {H H1 : Hp} {ρ ρ1 : List Addr} {σm : Env} {σ : L2.St} {s s1 : Sto} {d : D} {v : V} {A F a f : Cnt} {xs : List D} (rel : Rel K mg σm s σ H ρ A F) (hi : σm[i]? = some (some (.lst true xs))) :
    ∃ (p : Addr) (vs : List V), σ[i]? = some (some (.ref p)) ∧ H p = some (.lst vs) ∧ vs.length = xs.length ∧ ∀ {H1 : Hp} {ρ1 : List Addr} {s1 : Sto} {d : D} {v : V} {a f : Cnt}, Fr c0 H H1 ρ ρ1 → Wd K mg ρ1 s1 H1 → Rep K mg H1 ρ1 d v a f →
      (∀ x, A x + a x ≤ 1 ∧ (1 ≤ A x + a x → F x + f x = 0)) → H1 p = some (.lst vs) ∧ ∃ A' F', Rel K mg (σm.set i (some (.lst true (xs ++ [d])))) s1 σ (upd H1 p (.lst (vs ++ [v]))) ρ1 A' F' ∧ Fr A H (upd H1 p (.lst (vs ++ [v]))) ρ ρ1 ∧ ∀ x, A' x = A x + a x ∧ F' x = F x + f x := by
  obtain ⟨p, vs, a1, f1, A2, F2, e1, hp, r0, q, wr⟩ := rel.wr hi
  refine ⟨p, vs, e1, hp, r0.length.symm, fun {H1 ρ1 s1 d v a f} fr wd rp hs => ?_⟩
  obtain ⟨h1, h2, h3⟩ := wr H1 ρ1 s1 (xs ++ [d]) (vs ++ [v]) _ _ fr wd ((r0.on fr).append (Reps.one rp)) fun x => by
    have := hs x
    have := q x
    constructor
    · omega
    · intro z
      have := (hs x).2 (by omega)
      omega
  refine ⟨h1, _, _, h3, h2, fun x => ?_⟩
  have := q x
  omega
end
end Zm
set_option Elab.async false
set_option linter.all false
set_option maxRecDepth 100000
set_option autoImplicit false
/-! Z5: functions: what a def promises by its machine, calls, the law's own call. -/
namespace Zm
open PySem PySem.Spec PyProof.Rows L2
theorem takes0N {X : Cx} : L2N.Takes X (fun _ _ _ _ => False) := fun _ _ x => by
  obtain ⟨_, _, _, _, _, _, _, _, _, _, _, _, _, _, _, _, w⟩ := x
  exact w.elim
/-- a def's promise where no repr is under way -/
structure FnG (P : Program) (w : World) (K : PySem.W.Frag) (mg : Str → Option Value) (base : Heap) (k : Nat) (f : Addr) (fd : FuncData) (ps : List Str) (sp : Sp) : Prop where
  len : ∀ vs H Q E, sp vs H Q E → vs.length = ps.length
  run : ∀ (A : Around) (out : List PySem.Env) (s : Shared) (H : Hp) (args : Args) (us : List Value) (vs : List V) (Q : VK) (E : XK),
    Room k A → A.guards = some [] → Env0 P w K mg base A out s H → BindsTo s fd args (ps.zip us) → Vals vs us →
    sp vs H Q E → codeAny (model P w) A (.call (.ref f) args) (CR (L2N.CX P w) out P w H s Q E) s
section
variable {P : Program} {w : World} {K : PySem.W.Frag} {mg : Str → Option Value} {base : Heap}
theorem FnG.mono {j k : Nat} {f : Addr} {fd : FuncData} {ps : List Str} {sp : Sp} (F : FnG P w K mg base j f fd ps sp) (h : j ≤ k) : FnG P w K mg base k f fd ps sp :=
  ⟨F.len, fun A out s H args us vs Q E hr => F.run A out s H args us vs Q E (hr.mono h)⟩
/-- the context of a def's body -/
abbrev cxG (P : Program) (w : World) (K : PySem.W.Frag) (mg : Str → Option Value) (base : Heap) (N : List Str) (qual : Str) (scope : Scope) (f : Addr) (cd : Value) (A : Around) (out : List PySem.Env) (s : Shared) (H : Hp) (E : XK) : Cx :=
  cxOf (L2N.CX P w) P w K mg base N qual scope f cd A out s H E
theorem fnG_of {k : Nat} {f : Addr} {name qual : Str} {params : Arguments} {body : List Stmt} {scope : Scope} {dV kV doc pm cdv ct oc : Value} {an od : Option Addr} {osl : Array (Option Value)} {N ps : List Str} {sp : Sp}
    (lk : K.lookup f = some ⟨oc, od, .func (PySem.W.fnOf name qual params body scope dV kV doc pm an cdv ct), osl⟩)
    (hcd : PySem.W.codeIn K cdv qual = true) (S : FnScope N ps scope)
    (len : ∀ vs H Q E, sp vs H Q E → vs.length = ps.length)
    (hb : ∀ (A : Around) (out : List PySem.Env) (s : Shared) (H : Hp) (vs : List V) (Q : VK) (E : XK),
      Room k (A.deeper (envOfC qual scope s.heap.objs.size f cdv)) → A.guards = some [] → sp vs H Q E →
      ∃ t, PSs (cxG P w K mg base N qual scope f cdv A out s H E) body t ∧ t { nx := fun _ H' => Q .non H', rt := Q } (start N vs) H) :
    FnG P w K mg base (k + 1) f (PySem.W.fnOf name qual params body scope dV kV doc pm an cdv ct) ps sp := by
  refine ⟨len, ?_⟩
  intro A out s H args us vs Q E room gd ent binds vals want
  have nvs := len _ _ _ _ want
  have kin : K.In s.heap :=
    ent.mod.kin.keeps fun b o e => (ent.bs b o e).1
  have nol : s.heap.NoLimit :=
    ent.mod.nolimit.keeps fun b o e => (ent.bs b o e).1
  have kinds : ∀ y ∈ ps.zip us, scope.names.lookup y.1 = some .local ∨
      (scope.names.lookup y.1 = some .cell ∧ ((cellsFrom (s.heap.objs.size + 1) scope.names []).lookup y.1).isSome = true) := by
    rintro ⟨n, v⟩ hy
    have hn := (List.of_mem_zip hy).1
    cases S.par n hn with
    | inl q => exact .inl q
    | inr q => exact .inr ⟨q, PySem.W.cellsFrom_some _ _ _ (.inl q)⟩
  refine codeAny_call_function room.depth (kin _ _ lk) rfl S.co S.gen rfl
    (PySem.W.codeRec_of kin hcd) (binds _ _ _ _ ?_)
  refine wpAny_newFunctionEnv_cells S.kind kinds ?_
  intro env he s1 x
  subst he
  obtain ⟨t, ht, hq⟩ := hb A out s H vs Q E (room.deeper _) gd want
  have inv0 : Inv (cxG P w K mg base N qual scope f cdv A out s H E) [] (start N vs) H s1 :=
    inv_start S room.hd ent nvs vals x
  refine ⟨nol.keeps x.toInCall.keep, codeAny_func (wpAny_mono (ht.run [] s1 (start N vs) H _ inv0 hq) ?_ (fun _ _ z => z))⟩
  intro fl s' hs
  cases fl with
  | brk => obtain ⟨_, _, _, z⟩ := hs; exact z.elim
  | cont => obtain ⟨_, _, _, z⟩ := hs; exact z.elim
  | next =>
    obtain ⟨σ', H', J, z⟩ := hs
    exact ⟨.non, H', J.os, J.bare, J.base, J.hok, rfl, z⟩
  | ret u =>
    obtain ⟨v, σ', H', J, rv, z⟩ := hs
    exact ⟨v, H', J.os, J.bare, J.base, J.hok, rv, z⟩
end
section
variable {X : Cx} {k : Nat} {f : Addr} {fd : FuncData} {ps : List Str} {sp : Sp} {E : L2.St → XK} {x : Str} {p pos : Pos} {e : Expr} {es : List Expr} {t : TA}
theorem run_fnG {pins : List (Addr × Obj)} {σ : L2.St} {H : Hp} {s : Shared} {Q : VK} {us : List Value} {vs : List V} (F : FnG X.prog X.w X.K X.mg X.base k f fd ps sp) (hr : Room k X.A) (hg : X.A.guards = some [])
    (hb : Binds X.K fd ps []) (hx : PassesAt (L2N.CX X.prog X.w) X σ (E σ)) (I : Inv X pins σ H s) (r : Vals vs us) (h : sp vs H Q (E σ)) :
    wpAny (model X.prog X.w) X.A (call (.ref f) us) (EP X pins σ Q) X.xe s := by
  have nus : us.length = ps.length := r.length ▸ F.len _ _ _ _ h
  have bnd := hb s us I.kIn (by simpa using nus)
  simp only [List.append_nil] at bnd
  refine wpAny_call (codeAny_mono (F.run X.A X.stack s H ⟨us, []⟩ us vs Q (E σ) hr hg I.env0 bnd r h) ?_)
  intro res s' hq
  match res, hq with
  | .error e, hq => exact hx pins H s e s' I hq
  | .ok (.ret u), hq => exact I.after hq
  | .ok .next, hq => exact hq.elim
  | .ok .brk, hq => exact hq.elim
  | .ok .cont, hq => exact hq.elim
theorem pe_callG (F : FnG X.prog X.w X.K X.mg X.base k f fd ps sp) (hr : Room k X.A) (hgd : X.A.guards = some []) (hg : Gl X x) (hm : X.mg x = some (.ref f)) (hk : PySem.W.keepIn X.K (.ref f) = true) (hb : Binds X.K fd ps [])
    (hx : ∀ σ, PassesAt (L2N.CX X.prog X.w) X σ (E σ)) (ha : PA X (e :: es) t) (hdb : (x == ("__debug__" : Str)) = false := by decide)
    (he : starEach (e :: es) X.env = (false, eval e X.env) :: starEach es X.env := by rfl) (hpl : (backTo pos (starEach es X.env)).any (·.1) = false := by rfl) :
    PE X (.Call (.Name x p) (e :: es) [] pos) (tCallS sp E t) := by
  constructor
  intro pins s σ H Q I h
  refine wpAny_Call_Name_kw (ld_glob I hg hm ?_ hdb)
  refine PySem.W.callWith_K (h₀ := X.base) I.ok.mod.kin hk (thn (ha.run pos pins s σ H _ I h) ?_) he hpl
  rintro us s1 ⟨vs, H1, I1, r, q⟩
  exact ⟨I1.kIn, run_fnG F hr hgd hb (hx σ) I1 r q⟩
end
/-! ### the machine's promise -/
section
variable (K : PySem.W.Frag) (mg : Str → Option Value)
def oF (a f : Cnt) (H : Hp) (ρ : List Addr) (Q : VK) (E : XK) : R D → Prop
  | .ok d s' => ∀ v H' ρ' a' f', Fr a H H' ρ ρ' → Wd K mg ρ' s' H' → Rep K mg H' ρ' d v a' f' → Out a f H a' f' → Q v H'
  | .ex x s' => ∀ cls dd H' ρ', Fr a H H' ρ ρ' → Wd K mg ρ' s' H' → RepX mg H' x cls dd → E cls dd H'
  | .bad => False
def spF (m : Fn) : Sp := fun vs H Q E => ∃ ds s ρ a f, Wd K mg ρ s H ∧ Reps K mg H ρ ds vs a f ∧ Sp1 a f ∧ oF K mg a f H ρ Q E (m ds s)
end
/-- np parameters, ns slots -/
def mkFn (np ns : Nat) (body : MS) : Fn := fun ds s => if ds.length = np then match body (ds.map some ++ List.replicate (ns - np) none) s with
    | .rt d s' => .ok d s'
    | .nx _ s' => .ok .non s'
    | .ex x _ s' => .ex x s'
    | _ => .bad
  else .bad
@[simp] def mCall (f : Fn) (ms : List M) : M := fun σ s => (mArgs ms σ s).bind f
section
variable {K : PySem.W.Frag} {mg : Str → Option Value} {H : Hp} {ρ : List Addr}
theorem EnvR.start : ∀ {ds : List D} {vs : List V} {a f : Cnt} (n : Nat), Reps K mg H ρ ds vs a f → EnvR K mg H ρ (ds.map some ++ List.replicate n none) (vs.map some ++ List.replicate n none) a f
  | _, _, a, f, 0, .nil h1 h2 => .nil h1 h2
  | _, _, a, f, n + 1, .nil h1 h2 => by
    show EnvR K mg H ρ (none :: List.replicate n none) (none :: List.replicate n none) a f
    exact .no (EnvR.start n (.nil h1 h2))
  | _, _, _, _, n, .cons h t e1 e2 => .yes h (EnvR.start n t) e1 e2
theorem spF_len {m : Fn} {np : Nat} (har : ∀ ds s, ds.length ≠ np → m ds s = .bad) {vs : List V} {Q : VK} {E : XK} (h : spF K mg m vs H Q E) : vs.length = np := by
  obtain ⟨ds, s, ρ, a, f, wd, rp, sp, h⟩ := h
  rw [← rp.length]
  by_cases q : ds.length = np
  · exact q
  · rw [har ds s q] at h; exact h.elim
theorem mkFn_ar {np ns : Nat} {body : MS} : ∀ ds s, ds.length ≠ np → mkFn np ns body ds s = .bad := fun ds s h => by unfold mkFn; rw [if_neg h]
theorem body_of {N : List Str} {np ns : Nat} {body : MS} {vs : List V} {Q : VK} {E : XK} (hN : N.length = ns) (hnp : np ≤ ns) (h : spF K mg (mkFn np ns body) vs H Q E) :
    rS K mg (fun cls dd _ H => E cls dd H) body { nx := fun _ H' => Q .non H', rt := Q } (L2.start N vs) H := by
  have hl := spF_len mkFn_ar h
  obtain ⟨ds, s, ρ, a, f, wd, rp, sp, h⟩ := h
  have hd : ds.length = np := by rw [rp.length, hl]
  unfold mkFn at h
  rw [if_pos hd] at h
  have es : EnvR K mg H ρ (ds.map some ++ List.replicate (ns - np) none) (L2.start N vs) a f := by
    unfold L2.start
    rw [hN, hl]
    exact EnvR.start _ rp
  refine ⟨ds.map some ++ List.replicate (ns - np) none, s, ρ, a, f, ⟨es, wd, sp⟩, ?_⟩
  · cases e : body (ds.map some ++ List.replicate (ns - np) none) s with
    | nx σ' s' =>
      rw [e] at h
      exact fun σ' H' ρ' A' F' fr rel n => h .non H' ρ' c0 c0 fr rel.wd (.non (fun _ => rfl) (fun _ => rfl)) (.zero (fun _ => rfl) (fun _ => rfl))
    | rt d s' => rw [e] at h; exact h
    | bk σ s => rw [e] at h; exact h.elim
    | ct σ s => rw [e] at h; exact h.elim
    | bad => rw [e] at h; exact h.elim
    | ex x σ s' =>
      rw [e] at h
      exact fun cls dd σ' H' ρ' A' F' fr rel n rx => h cls dd H' ρ' fr rel.wd rx
theorem rE_call {W : WX} {σ : L2.St} {H : Hp} {Q : VK} {fn : Fn} {ms : List M} (h : rE K mg W (mCall fn ms) σ H Q) : rA K mg W (mArgs ms) σ H fun vs H1 => spF K mg fn vs H1 Q (WE W σ) := by
  obtain ⟨σm, s, ρ, A, F, rel, h⟩ := h
  refine ⟨σm, s, ρ, A, F, rel, ?_⟩
  unfold mCall at h
  cases e : mArgs ms σm s with
  | bad => rw [e] at h; exact h
  | ex x s1 => rw [e] at h; exact h
  | ok ds s1 =>
    rw [e, Zm.R.bind_ok] at h
    intro vs H1 ρ1 a f fr wd rp g
    refine ⟨ds, s1, ρ1, a, f, wd, rp, g.sp, ?_⟩
    cases e2 : fn ds s1 with
    | bad => rw [e2] at h; exact h
    | ex x s2 =>
      rw [e2] at h
      exact fun cls dd H2 ρ2 fr2 wd2 rx => h cls dd H2 ρ2 (fr.trans fr2 fun x z => .inr ((g x).2.1 z).2) wd2 rx
    | ok d s2 =>
      rw [e2] at h
      exact fun v H2 ρ2 a' f' fr2 wd2 rp2 o => h v H2 ρ2 a' f' (fr.trans fr2 fun x z => .inr ((g x).2.1 z).2) wd2 rp2 (g.out fr o)
end
/-- a def of the text keeps its machine's promise -/
structure FnM (P : Program) (w : World) (K : PySem.W.Frag) (mg : Str → Option Value) (base : Heap) (k : Nat) (x : Str) (ps : List Str) (m : Fn) : Prop where
  ex : ∃ f fd, mg x = some (.ref f) ∧ PySem.W.keepIn K (.ref f) = true ∧ Binds K fd ps [] ∧ FnG P w K mg base k f fd ps (spF K mg m) ∧ ∃ oc od osl, K.lookup f = some ⟨oc, od, .func fd, osl⟩
section
variable {P : Program} {w : World} {K : PySem.W.Frag} {mg : Str → Option Value} {base : Heap}
theorem FnM.mono {j k : Nat} {x : Str} {ps : List Str} {m : Fn} (F : FnM P w K mg base j x ps m) (h : j ≤ k) : FnM P w K mg base k x ps m := by
  obtain ⟨f, fd, a, b, c, d, e⟩ := F.ex
  exact ⟨f, fd, a, b, c, d.mono h, e⟩
theorem fnM_mk {x qual : Str} {st : Stmt} {f : Addr} {fd : FuncData} {N ps : List Str} {k np ns : Nat} {body : MS} (F : Fun K x qual st f fd) (S : FnScope N ps (defScope st)) (hm : mg x = some (.ref f)) (hb : Binds K fd ps [])
    (h : ∀ (cdv : Value) (A : Around) (out : List PySem.Env) (s : Shared) (H : Hp) (E : XK), Room k (A.deeper (envOfC qual (defScope st) s.heap.objs.size f cdv)) → A.guards = some [] →
      SSs (cxG P w K mg base N qual (defScope st) f cdv A out s H E) (fun cls dd _ H => E cls dd H) (defBody st) body)
    (hN : N.length = ns := by rfl) (hps : ps.length = np := by rfl) (hnp : np ≤ ns := by decide) : FnM P w K mg base (k + 1) x ps (mkFn np ns body) := by
  refine ⟨f, fd, hm, F.kp, hb, ?_⟩
  obtain ⟨oc, od, kV, doc, pm, an, cdv, ct, osl, rfl, lk, hcd⟩ := F.ex
  refine ⟨?_, oc, od, osl, lk⟩
  refine fnG_of lk hcd S (fun vs H Q E q => by rw [spF_len mkFn_ar q, hps]) fun A out s H vs Q E hr hg q => ?_
  exact ⟨_, h cdv A out s H E hr hg, body_of hN hnp q⟩
end
section
variable {X : Cx} {W : WX} {e : Expr} {es : List Expr} {ms : List M} {k : Nat} {x : Str} {ps : List Str} {m : Fn} {p pos : Pos}
theorem s_call (F : FnM X.prog X.w X.K X.mg X.base k x ps m) (hr : Room k X.A) (hgd : X.A.guards = some []) (tk : L2N.Takes X W) (ha : SA X W (e :: es) ms) (hg : Gl X x := by rfl) (hdb : (x == ("__debug__" : Str)) = false := by decide)
    (he : starEach (e :: es) X.env = (false, eval e X.env) :: starEach es X.env := by rfl) (hpl : (backTo pos (starEach es X.env)).any (·.1) = false := by rfl) : SE X W (.Call (.Name x p) (e :: es) [] pos) (mCall m ms) := by
  obtain ⟨f, fd, a, b, c, d, _⟩ := F.ex
  exact PE.imp (pe_callG d hr hgd hg a b c (E := WE W) (fun σ => L2N.passAt tk σ) ha hdb he hpl) fun σ H Q h => rE_call h
end
end Zm
set_option Elab.async false
set_option linter.all false
set_option maxRecDepth 100000
set_option autoImplicit false
/-! Z6: targets, what is walked, loops, comprehensions. -/
namespace Zm
open PySem PySem.Spec PyProof.Rows L2
inductive Tg where
  | nm (i : Nat) | t2 (a b : Tg) | t3 (a b c : Tg) | l (is : List Nat)
/-- names, one by one -/
def bindN : List Nat → List D → Env → Option Env
  | [], [], σ => some σ
  | i :: is, x :: xs, σ => if i < σ.length then bindN is xs (σ.set i (some x)) else none
  | _, _, _ => none
def Tg.bind : Tg → D → Env → Option Env
  | .nm i, d, σ => if i < σ.length then some (σ.set i (some d)) else none
  | .t2 a b, .tup [x, y], σ => (a.bind x σ).bind fun σ1 => b.bind y σ1
  | .t3 a b c, .tup [x, y, z], σ => (a.bind x σ).bind fun σ1 => (b.bind y σ1).bind fun σ2 => c.bind z σ2
  | .l is, .lst _ xs, σ => bindN is xs σ
  | .l is, .tup xs, σ => bindN is xs σ
  | _, _, _ => none
def Tg.slots : Tg → List Nat
  | .nm i => [i]
  | .t2 a b => a.slots ++ b.slots
  | .t3 a b c => a.slots ++ (b.slots ++ c.slots)
  | .l is => is
def Chg (ss : List Nat) (σ σ' : L2.St) : Prop := σ'.length = σ.length ∧ ∀ j, j ∉ ss → σ'[j]? = σ[j]?
theorem Chg.trans {ss ss' : List Nat} {σ σ1 σ2 : L2.St} (a : Chg ss σ σ1) (b : Chg ss' σ1 σ2) : Chg (ss ++ ss') σ σ2 := ⟨b.1.trans a.1, fun j hj => by
  rw [List.mem_append] at hj
  exact (b.2 j fun z => hj (.inr z)).trans (a.2 j fun z => hj (.inl z))⟩
/-- what a target's store promises -/
def rG (K : PySem.W.Frag) (mg : Str → Option Value) (tg : Tg) : TG := fun v σ H Q => ∃ σm s ρ A F d f, Rel K mg σm s σ H ρ A F ∧ Rep K mg H ρ d v c0 f ∧ (∀ x, 1 ≤ f x → A x = 0) ∧ ∃ σ1, tg.bind d σm = some σ1 ∧
  ∀ σ' A' F', Rel K mg σ1 s σ' H ρ A' F' → (∀ x, A' x ≤ A x ∧ (1 ≤ F' x → 1 ≤ F x ∨ 1 ≤ f x)) → Chg tg.slots σ σ' → Q σ' H
def SG (X : Cx) (e : Expr) (tg : Tg) : Prop := PG X e (rG X.K X.mg tg)
theorem PG.imp {X : Cx} {e : Expr} {t t' : TG} (h : PG X e t) (q : ∀ v σ H Q, t' v σ H Q → t v σ H Q) : PG X e t' := ⟨fun pins s σ H v u Q I r w => h.run pins s σ H v u Q I r (q v σ H Q w)⟩
section
variable {X : Cx} {pos : Pos}
theorem sg_nm (i : Nat) {x : Str} (nd : X.N.Nodup) (hi : X.N[i]? = some x := by rfl) (hx : Loc X.env.scope x := by first | exact .inl rfl | exact .inr rfl) (hf : X.fn x = true ∨ X.env.scope.names.lookup x = some .local := by first | exact .inl rfl | exact .inr rfl) : SG X (.Name x pos) (.nm i) :=
  PG.imp (pg_name nd hi hx hf) fun v σ H Q ⟨σm, s, ρ, A, F, d, f, rel, rp, dj, σ1, e, h⟩ => by
    unfold Tg.bind at e
    split at e
    · rename_i hi
      cases e
      obtain ⟨A', F', e', le, _⟩ := rel.env.set i rp hi
      refine h _ A' F' ⟨e', rel.wd, fun x => ?_⟩ (fun x => ?_) ?_
      · have := le x
        have s0 := rel.sep x
        have z0 : c0 x = 0 := rfl
        refine ⟨by omega, fun y => ?_⟩
        have := s0.2 (by omega)
        by_cases w : 1 ≤ f x
        · have := dj x w; omega
        · omega
      · have := le x
        have z0 : c0 x = 0 := rfl
        exact ⟨by omega, fun y => by omega⟩
      · exact ⟨by simp, fun j hj => List.getElem?_set_ne (fun z => hj (by simp [Tg.slots, z]))⟩
    · cases e
theorem sg_t2 {e1 e2 : Expr} {k : Nat} {a b : Tg} (hc : X.calm = true) (h1 : SG X e1 a) (h2 : SG X e2 b) (hs1 : (assignEach [e1, e2] X.env).map (·.2) = assign e1 X.env :: (assignEach [e2] X.env).map (·.2) := by rfl) (hs2 : (assignEach [e2] X.env).map (·.2) = assign e2 X.env :: (assignEach [] X.env).map (·.2) := by rfl)
    (hn : (assignEach [e1, e2] X.env).length = 2 := by rfl) (hst : (assignEach [e1, e2] X.env).findIdx? (·.1) = none := by rfl) : SG X (.Tuple [e1, e2] k pos) (.t2 a b) :=
  PG.imp (pg_tup hc (pgs_cons h1 (pgs_cons h2 pgs_nil hs2) hs1) hn hst) fun v σ H Q ⟨σm, s, ρ, A, F, d, f, rel, rp, dj, σ1, e, h⟩ => by
    match d, rp, e with
    | .tup [x, y], .tup hp r, e =>
      obtain ⟨vx, vy, ax, fx, ay, fy, rfl, rx, ry, q⟩ := r.inv2
      have e : (a.bind x σm).bind (fun σ1 => b.bind y σ1) = some σ1 := e
      cases ea : a.bind x σm with
      | none => rw [ea] at e; cases e
      | some σa =>
        rw [ea] at e
        have e : b.bind y σa = some σ1 := e
        have zx : ax = c0 := funext fun x => by have := (q x).1; have z0 : c0 x = 0 := rfl; omega
        have zy : ay = c0 := funext fun x => by have := (q x).1; have z0 : c0 x = 0 := rfl; omega
        subst zx zy
        refine ⟨_, _, rfl, SqT.of hp, rfl, vx, _, rfl, ⟨σm, s, ρ, A, F, x, fx, rel, rx, fun p hp => dj p (by have := q p; omega), σa, ea, fun σ2 A2 F2 rel2 le2 ch2 => ?_⟩⟩
        refine ⟨vy, _, rfl, ⟨σa, s, ρ, A2, F2, y, fy, rel2, ry, fun p hp => by have := dj p (by have := q p; omega); have := le2 p; omega, σ1, e, fun σ3 A3 F3 rel3 le3 ch3 => ?_⟩⟩
        exact ⟨rfl, h σ3 A3 F3 rel3 (fun p => ⟨by have := le2 p; have := le3 p; omega, fun z => by
          have q0 := q p
          rcases (le3 p).2 z with w | w
          · rcases (le2 p).2 w with u | u
            · exact .inl u
            · exact .inr (by omega)
          · exact .inr (by omega)⟩) (ch2.trans ch3)⟩
end
/-! ### what is walked -/
/-- the iterator J gives the trees ds, one a turn, as long as what they stand on is left alone -/
def ItOK (K : PySem.W.Frag) (mg : Str → Option Value) (J : It) (ds : List D) (H : Hp) (ρ : List Addr) (f : Cnt) : Prop :=
  (∀ x, 1 ≤ f x → ∃ o, H x = some o) ∧ ∃ (G : Hp → Prop) (Y : Nat → Hp → V → Hp → Prop), Walk J ds.length G Y ∧
    ∀ (Mc : Cnt) (H1 : Hp) (ρ1 : List Addr), Fr Mc H H1 ρ ρ1 → (∀ x, 1 ≤ Mc x → f x = 0) → G H1 ∧
      ∀ (i : Nat) (d : D) (x : V) (H2 : Hp), ds[i]? = some d → Y i H1 x H2 → Same H1 H2 ∧ ∃ f', Rep K mg H2 ρ1 d x c0 f' ∧ ∀ p, f' p ≤ f p
abbrev Src := Env → Sto → R (List D)
section
variable (K : PySem.W.Frag) (mg : Str → Option Value) (W : WX)
def oI (σ : L2.St) (A F : Cnt) (H : Hp) (ρ : List Addr) (z : Bool) (Q : It → Hp → Prop) : R (List D) → Prop
  | .ok ds s' => ∀ J H' ρ' f, Fr c0 H H' ρ ρ' → Wd K mg ρ' s' H' → ItOK K mg J ds H' ρ' f → (∀ x, 1 ≤ f x → z = false ∧ (1 ≤ A x ∨ 1 ≤ F x ∨ H x = none)) → Q J H'
  | .ex x s' => ∀ cls dd H' ρ', Fr c0 H H' ρ ρ' → Wd K mg ρ' s' H' → RepX mg H' x cls dd → W cls dd σ H'
  | .bad => False
def rI (z : Bool) (m : Src) : TI := fun σ H Q => ∃ σm s ρ A F, Rel K mg σm s σ H ρ A F ∧ oI K mg W σ A F H ρ z Q (m σm s)
end
/-- z: nothing that may be changed is walked -/
def SI (X : Cx) (W : WX) (z : Bool) (tg iter : Expr) (m : Src) : Prop := PI X tg iter (rI X.K X.mg W z m)
theorem PI.imp {X : Cx} {tg e : Expr} {t t' : TI} (h : PI X tg e t) (q : ∀ σ H Q, t' σ H Q → t σ H Q) : PI X tg e t' := ⟨fun pins s σ H Q I w => h.run pins s σ H Q I (q σ H Q w)⟩
def rng (lo hi step : Int) (n : Nat) : List D := (List.range n).map fun i => .int (lo + (i : Nat) * step)
def big (i : Int) : Bool := decide (-(2 ^ 62) ≤ i ∧ i < 2 ^ 62)
def iR1 (ms : List M) : Src := fun σ s => (mArgs ms σ s).bind fun ds s' => match ds with
  | [.int j] => if big j = true then .ok (rng 0 j 1 j.toNat) s' else .bad
  | _ => .bad
def iR2 (ms : List M) : Src := fun σ s => (mArgs ms σ s).bind fun ds s' => match ds with
  | [.int i, .int j] => if big i = true ∧ big j = true then .ok (rng i j 1 (j - i).toNat) s' else .bad
  | _ => .bad
section
variable {K : PySem.W.Frag} {mg : Str → Option Value} {H : Hp} {ρ : List Addr}
theorem it_range {lo : Int} {n : Nat} {hi : Int} : ItOK K mg (Itr lo n) (rng lo hi 1 n) H ρ c0 := by
  refine ⟨fun _ hx => no0 hx, fun _ => True, YFn fun i => .int (lo + i), by unfold rng; rw [List.length_map, List.length_range]; exact walk_range, fun Mc H1 ρ1 fr hm => ⟨trivial, fun i d x H2 e y => ?_⟩⟩
  obtain ⟨rfl, rfl⟩ := y
  unfold rng at e
  rw [List.getElem?_map] at e
  have hi : i < n := by
    by_cases z : i < n
    · exact z
    · rw [List.getElem?_eq_none (by simpa using z)] at e; cases e
  rw [List.getElem?_range hi] at e
  simp at e; subst e
  exact ⟨fun _ _ h => h, c0, .int (fun _ => rfl) (fun _ => rfl), fun _ => Nat.le_refl _⟩
end
end Zm
set_option Elab.async false
set_option linter.all false
set_option maxRecDepth 100000
set_option autoImplicit false
/-! Z7: loops and comprehensions by machine. -/
namespace Zm
open PySem PySem.Spec PyProof.Rows L2
def forR (tg : Tg) (body : MS) : List D → Env → Sto → RS
  | [], σ, s => .nx σ s
  | d :: ds, σ, s => match tg.bind d σ with
    | none => .bad
    | some σ1 => match body σ1 s with
      | .nx σ2 s2 => forR tg body ds σ2 s2
      | .ct σ2 s2 => forR tg body ds σ2 s2
      | .bk σ2 s2 => .nx σ2 s2
      | r => r
def mFor (msk : List Bool) (src : Src) (tg : Tg) (body : MS) : MS := fun σ s => (src (restr msk σ) s).to σ fun ds s' => forR tg body ds (frzE msk σ) s'
def mForP (src : Src) (tg : Tg) (body : MS) : MS := fun σ s => (src σ s).to σ fun ds s' => forR tg body ds σ s'
def whileR (t : T) (body : MS) : Nat → Env → Sto → RS
  | 0, _, _ => .bad
  | n + 1, σ, s => (t σ s).to σ fun b s1 => if b = true then match body σ s1 with
      | .nx σ2 s2 => whileR t body n σ2 s2
      | .ct σ2 s2 => whileR t body n σ2 s2
      | .bk σ2 s2 => .nx σ2 s2
      | r => r
    else .nx σ s1
@[simp] def wipeE (σ : Env) : List Nat → Env
  | [] => σ
  | v :: vs => (wipeE σ vs).set v none
def lcR (tg : Tg) (t : T) (m : M) (σ : Env) : List D → List D → Sto → R D
  | [], acc, s => .ok (.lst true acc) s
  | d :: ds, acc, s => match tg.bind d σ with
    | none => .bad
    | some σ1 => match t σ1 s with
      | .ok b s1 => if b = true then match m σ1 s1 with
          | .ok x s2 => if acc.length < sizeLine then lcR tg t m σ ds (acc ++ [x]) s2 else .bad
          | _ => .bad
        else lcR tg t m σ ds acc s1
      | _ => .bad
@[simp] def tTrue : T := fun _ s => .ok true s
def Tg.within (tg : Tg) (vs : List Nat) : Bool := tg.slots.all fun i => vs.contains i
@[simp] def fzE (σ : Env) : Env := σ.map fun o => o.map fz
def mLc (src : Src) (tg : Tg) (vs : List Nat) (t : T) (m : M) : M := fun σ s => (src σ s).bind fun ds s' => if tg.within vs = true then lcR tg t m (wipeE (fzE σ) vs) ds [] s' else .bad
section
variable {K : PySem.W.Frag} {mg : Str → Option Value} {W : WX} {H H1 : Hp} {ρ ρ1 : List Addr} {σm σ0 : Env} {σ : L2.St} {s s1 : Sto} {A F A0 F0 f : Cnt} {Ds : Ends} {tg : Tg} {body : MS}
theorem for_core {J : It} {items : List D} (it : ItOK K mg J items H1 ρ1 f) (rel0 : Rel K mg σ0 s1 σ H1 ρ1 A0 F0) (fr0 : Fr A H H1 ρ ρ1) (n0 : Nx A F H A0 F0) (hf0 : ∀ x, 1 ≤ f x → A0 x = 0) (hfp : ∀ x, 1 ≤ f x → 1 ≤ A x ∨ 1 ≤ F x ∨ H x = none)
    (h : oS K mg W A F H ρ Ds (forR tg body items σ0 s1)) :
    ∃ W' : Nat → Nat → L2.St → Hp → Prop, (∃ m, W' 0 m σ H1) ∧ ∀ i m σ H, W' i m σ H →
      (J.stop i H ∧ Ds.nx σ H) ∨ (J.go i H ∧ ∃ N : L2.St → Hp → Prop, (∀ σ' H', N σ' H' → ∃ m', m' < m ∧ W' (i + 1) m' σ' H') ∧ ∀ x H', J.yld i H x H' → rG K mg tg x σ H' fun σ2 H2 => rS K mg W body { Ds with nx := N, ct := N, bk := Ds.nx } σ2 H2) := by
  obtain ⟨hft, G, Y, wk, st⟩ := it
  refine for_it wk (fun i σ' H' => ∃ σm' s' ρ' A' F', Rel K mg σm' s' σ' H' ρ' A' F' ∧ Fr A0 H1 H' ρ1 ρ' ∧ (∀ x, 1 ≤ A' x → 1 ≤ A0 x ∨ H1 x = none) ∧ Nx A F H A' F' ∧ oS K mg W A F H ρ Ds (forR tg body (items.drop i) σm' s'))
    ⟨σ0, s1, ρ1, A0, F0, rel0, .refl, fun x z => .inl z, n0, by simpa using h⟩ ?_ ?_ ?_
  · rintro i σ' H' _ ⟨σm', s', ρ', A', F', rel', fr', o', n', h'⟩
    exact (st A0 H' ρ' fr' fun x z => Nat.eq_zero_of_not_pos fun w => by have := hf0 x w; omega).1
  · rintro i x σ' H' H2 hi ⟨σm', s', ρ', A', F', rel', fr', o', n', h'⟩ hy
    have hit : items[i]? = some items[i] := List.getElem?_eq_getElem hi
    obtain ⟨sm, f', rp, le⟩ := (st A0 H' ρ' fr' fun x z => Nat.eq_zero_of_not_pos fun w => by have := hf0 x w; omega).2 i _ x H2 hit hy
    rw [List.drop_eq_getElem_cons hi] at h'
    unfold forR at h'
    have dj : ∀ x, 1 ≤ f' x → A' x = 0 := fun x z => by
      have := le x
      by_cases w : 1 ≤ A' x
      · rcases o' x w with u | u
        · have := hf0 x (by omega); omega
        · obtain ⟨o, ho⟩ := hft x (by omega)
          rw [u] at ho; cases ho
      · omega
    cases eb : tg.bind items[i] σm' with
    | none => simp only [eb] at h'; exact h'.elim
    | some σ1 =>
      simp only [eb] at h'
      refine ⟨σm', s', ρ', A', F', _, f', rel'.next (Fr.of_same sm) (rel'.wd.same sm), rp, dj, σ1, eb, fun σ2 A2 F2 rel2 le2 _ => ⟨σ1, s', ρ', A2, F2, rel2, ?_⟩⟩
      -- what the body's end gives
      have fin : ∀ {σ3 : Env} {s3 : Sto} {σ'' : L2.St} {H'' : Hp} {ρ'' : List Addr} {A3 F3 : Cnt}, Fr A2 H2 H'' ρ' ρ'' → Rel K mg σ3 s3 σ'' H'' ρ'' A3 F3 → Nx A2 F2 H2 A3 F3 →
          Fr A0 H1 H'' ρ1 ρ'' ∧ (∀ x, 1 ≤ A3 x → 1 ≤ A0 x ∨ H1 x = none) ∧ Nx A F H A3 F3 ∧ Fr A H H'' ρ ρ'' := fun {σ3 s3 σ'' H'' ρ'' A3 F3} fr3 rel3 n3 => by
        have e1 : Fr A0 H1 H2 ρ1 ρ' := fr'.trans (Fr.of_same (Mc := c0) sm) fun _ z => no0 z
        have e2 : Fr A0 H1 H'' ρ1 ρ'' := e1.trans fr3 fun x z => o' x (by have := le2 x; omega)
        have e3 : ∀ x, 1 ≤ A3 x → 1 ≤ A0 x ∨ H1 x = none := fun x z => by
          rcases (n3 x).1 z with w | w
          · exact o' x (by have := le2 x; omega)
          · exact .inr (e1.there x w)
        have e4 : Fr A H H2 ρ ρ' := fr0.trans e1 fun x z => (n0 x).1 z
        have e5 : Nx A F H A2 F2 := fun x => by
          have l2 := le2 x
          obtain ⟨p, q⟩ := n' x
          refine ⟨fun z => p (by omega), fun z => ?_⟩
          rcases l2.2 z with w | w
          · exact q w
          · exact hfp x (by have := le x; omega)
        exact ⟨e2, e3, e5.trans e4 n3, e4.trans fr3 fun x z => (e5 x).1 z⟩
      cases ebd : body σ1 s' with
      | bad => simp only [ebd] at h'; exact h'.elim
      | nx σ3 s3 =>
        simp only [ebd] at h'
        exact fun σ'' H'' ρ'' A3 F3 fr3 rel3 n3 => let ⟨e2, e3, e5, _⟩ := fin fr3 rel3 n3; ⟨σ3, s3, ρ'', A3, F3, rel3, e2, e3, e5, h'⟩
      | ct σ3 s3 =>
        simp only [ebd] at h'
        exact fun σ'' H'' ρ'' A3 F3 fr3 rel3 n3 => let ⟨e2, e3, e5, _⟩ := fin fr3 rel3 n3; ⟨σ3, s3, ρ'', A3, F3, rel3, e2, e3, e5, h'⟩
      | bk σ3 s3 =>
        simp only [ebd] at h'
        exact fun σ'' H'' ρ'' A3 F3 fr3 rel3 n3 => let ⟨_, _, e5, e6⟩ := fin fr3 rel3 n3; h' σ'' H'' ρ'' A3 F3 e6 rel3 e5
      | rt d s3 =>
        simp only [ebd] at h'
        intro v H'' ρ'' a3 f3 fr3 wd3 rp3 o3
        have e1 : Fr A0 H1 H2 ρ1 ρ' := fr'.trans (Fr.of_same (Mc := c0) sm) fun _ z => no0 z
        have e4 : Fr A H H2 ρ ρ' := fr0.trans e1 fun x z => (n0 x).1 z
        have e5 : Nx A F H A2 F2 := fun x => by
          have l2 := le2 x
          obtain ⟨p, q⟩ := n' x
          refine ⟨fun z => p (by omega), fun z => ?_⟩
          rcases l2.2 z with w | w
          · exact q w
          · exact hfp x (by have := le x; omega)
        exact h' v H'' ρ'' a3 f3 (e4.thenN e5 fr3) wd3 rp3 (o3.stepN e4 e5)
      | ex x σ3 s3 =>
        simp only [ebd] at h'
        exact fun cls dd σ'' H'' ρ'' A3 F3 fr3 rel3 n3 rx => let ⟨_, _, e5, e6⟩ := fin fr3 rel3 n3; h' cls dd σ'' H'' ρ'' A3 F3 e6 rel3 e5 rx
  · rintro σ' H' ⟨σm', s', ρ', A', F', rel', fr', o', n', h'⟩
    rw [List.drop_length] at h'
    exact h' σ' H' ρ' A' F' (fr0.trans fr' fun x z => (n0 x).1 z) rel' n'
theorem Rel.frzd {msk : List Bool} {Am Fm Ar F2 : Cnt} (rel : Rel K mg σm s σ H ρ A F) (r2 : EnvR K mg H ρ (frzE msk σm) σ Ar F2) (q : ∀ x, A x = Am x + Ar x ∧ Fm x ≤ F x ∧ (1 ≤ F2 x → 1 ≤ F x ∨ 1 ≤ Am x)) : Rel K mg (frzE msk σm) s σ H ρ Ar F2 ∧ Nx A F H Ar F2 :=
  ⟨⟨r2, rel.wd, fun x => by
    have s0 := rel.sep x
    have q0 := q x
    refine ⟨by omega, fun z => ?_⟩
    have := s0.2 (by omega)
    by_cases w : 1 ≤ F2 x
    · have := q0.2.2 w; omega
    · omega⟩, fun x => by
    have q0 := q x
    refine ⟨fun z => .inl (by omega), fun z => ?_⟩
    rcases q0.2.2 z with w | w
    · exact .inr (.inl w)
    · exact .inl (by omega)⟩
end
section
variable {X : Cx} {W : WX} {tge iter c : Expr} {src : Src} {tg : Tg} {body : MS} {t : T} {m : M} {ss : List Stmt} {pos : Pos}
theorem ss_for (msk : List Bool) (hp : PassesOwn (model X.prog X.w) X.A X.env X.xe) (hc : X.calm = true) (hi : SI X W false tge iter src) (hg : SG X tge tg) (hb : SSs X W ss body) (hs : ∀ x, foldedSetIterable iter X.env x = pure x := by intro _; rfl) :
    SS X W (.For tge iter ss [] pos) (mFor msk src tg body) :=
  PS.imp (ps_for hp hc hi hg hb hs) fun D σ H ⟨σm, s, ρ, A, F, rel, h⟩ => by
    obtain ⟨Am, Fm, Ar, F2, r1, r2, q⟩ := rel.mask (msk := msk)
    refine ⟨_, s, ρ, Am, Fm, r1, ?_⟩
    unfold mFor at h
    cases e : src (restr msk σm) s with
    | bad => rw [e] at h; exact h
    | ex x s1 =>
      rw [e] at h
      exact fun cls dd H' ρ' fr wd rx => h cls dd σ H' ρ' A F fr.up (rel.next fr wd) .refl rx
    | ok items s1 =>
      rw [e] at h
      intro J H1 ρ1 f fr wd it hf
      obtain ⟨rel2, n2⟩ := rel.frzd r2 q
      have ev := rel.env.there
      refine for_core it (rel2.next fr wd) fr.up n2 (fun x z => ?_) (fun x z => ?_) h
      · have q0 := q x
        have s0 := rel.sep x
        by_cases w : 1 ≤ Ar x
        · rcases (hf x z).2 with u | u | u
          · omega
          · have := s0.2 (by omega); omega
          · obtain ⟨⟨o, ho⟩, _⟩ := ev x (by omega)
            rw [u] at ho; cases ho
        · omega
      · have q0 := q x
        rcases (hf x z).2 with u | u | u
        · exact .inl (by omega)
        · exact .inr (.inl (by omega))
        · exact .inr (.inr u)
theorem ss_forP (hp : PassesOwn (model X.prog X.w) X.A X.env X.xe) (hc : X.calm = true) (hi : SI X W true tge iter src) (hg : SG X tge tg) (hb : SSs X W ss body) (hs : ∀ x, foldedSetIterable iter X.env x = pure x := by intro _; rfl) :
    SS X W (.For tge iter ss [] pos) (mForP src tg body) :=
  PS.imp (ps_for hp hc hi hg hb hs) fun D σ H ⟨σm, s, ρ, A, F, rel, h⟩ => by
    refine ⟨_, s, ρ, A, F, rel, ?_⟩
    unfold mForP at h
    cases e : src σm s with
    | bad => rw [e] at h; exact h
    | ex x s1 =>
      rw [e] at h
      exact fun cls dd H' ρ' fr wd rx => h cls dd σ H' ρ' A F fr.up (rel.next fr wd) .refl rx
    | ok items s1 =>
      rw [e] at h
      intro J H1 ρ1 f fr wd it hf
      exact for_core it (rel.next fr wd) fr.up .refl (fun x z => Bool.noConfusion (hf x z).1) (fun x z => Bool.noConfusion (hf x z).1) h
theorem ss_while (n : Nat) (hp : PassesOwn (model X.prog X.w) X.A X.env X.xe) (hc : ST X W c t) (hb : SSs X W ss body) : SS X W (.While c ss [] pos) (whileR t body n) :=
  PS.imp (ps_while hp hc hb) fun D σ H ⟨σm, s, ρ, A, F, rel, h⟩ => by
    refine ⟨fun m σ' H' => ∃ σm' s' ρ' A' F', Rel X.K X.mg σm' s' σ' H' ρ' A' F' ∧ Fr A H H' ρ ρ' ∧ Nx A F H A' F' ∧ oS X.K X.mg W A F H ρ D (whileR t body m σm' s'), ⟨n, σm, s, ρ, A, F, rel, .refl, .refl, h⟩, ?_⟩
    rintro m σ' H' ⟨σm', s', ρ', A', F', rel', fr', n', h'⟩
    cases m with
    | zero => exact h'.elim
    | succ m =>
      unfold whileR at h'
      refine ⟨σm', s', ρ', A', F', rel', ?_⟩
      cases e : t σm' s' with
      | bad => rw [e] at h'; exact h'
      | ex x s1 =>
        rw [e] at h'
        exact fun cls dd H1 ρ1 fr1 wd1 rx => h' cls dd σ' H1 ρ1 A' F' (fr'.thenN n' fr1.up) (rel'.next fr1 wd1) n' rx
      | ok b s1 =>
        rw [e, Zm.R.to_ok] at h'
        intro H1 ρ1 fr1 wd1
        have rel1 := rel'.next fr1 wd1
        have f1 : Fr A H H1 ρ ρ1 := fr'.thenN n' fr1.up
        cases b with
        | false => exact iteF (h' σ' H1 ρ1 A' F' f1 rel1 n')
        | true =>
          refine iteT ⟨fun σ2 H2 => ∃ σm2 s2 ρ2 A2 F2, Rel X.K X.mg σm2 s2 σ2 H2 ρ2 A2 F2 ∧ Fr A H H2 ρ ρ2 ∧ Nx A F H A2 F2 ∧ oS X.K X.mg W A F H ρ D (whileR t body m σm2 s2), fun σ2 H2 z => ⟨m, Nat.lt_succ_self m, z⟩, σm', s1, ρ1, A', F', rel1, ?_⟩
          rw [if_pos rfl] at h'
          cases eb : body σm' s1 with
          | bad => simp only [eb] at h'; exact h'.elim
          | nx σ3 s3 =>
            simp only [eb] at h'
            exact fun σ2 H2 ρ2 A2 F2 fr2 rel2 n2 => ⟨σ3, s3, ρ2, A2, F2, rel2, f1.thenN n' fr2, n'.trans f1 n2, h'⟩
          | ct σ3 s3 =>
            simp only [eb] at h'
            exact fun σ2 H2 ρ2 A2 F2 fr2 rel2 n2 => ⟨σ3, s3, ρ2, A2, F2, rel2, f1.thenN n' fr2, n'.trans f1 n2, h'⟩
          | bk σ3 s3 =>
            simp only [eb] at h'
            exact fun σ2 H2 ρ2 A2 F2 fr2 rel2 n2 => h' σ2 H2 ρ2 A2 F2 (f1.thenN n' fr2) rel2 (n'.trans f1 n2)
          | rt d s3 =>
            simp only [eb] at h'
            exact fun v H2 ρ2 a2 f2 fr2 wd2 rp2 o2 => h' v H2 ρ2 a2 f2 (f1.thenN n' fr2) wd2 rp2 (o2.stepN f1 n')
          | ex x σ3 s3 =>
            simp only [eb] at h'
            exact fun cls dd σ2 H2 ρ2 A2 F2 fr2 rel2 n2 rx => h' cls dd σ2 H2 ρ2 A2 F2 (f1.thenN n' fr2) rel2 (n'.trans f1 n2) rx
end
end Zm
set_option Elab.async false
set_option linter.all false
set_option maxRecDepth 100000
set_option autoImplicit false
/-! Z8: list comprehensions. -/
namespace Zm
open PySem PySem.Spec PyProof.Rows L2
abbrev W0 : WX := fun _ _ _ _ => False
section
variable {K : PySem.W.Frag} {mg : Str → Option Value} {W : WX} {H H1 H4 : Hp} {ρ ρ1 : List Addr} {σm σ0 : Env} {σ : L2.St} {s s1 : Sto} {A F A0 F0 a f a2 f2 : Cnt}
theorem Gd.add (g : Gd A F H a f) (th : ∀ x, 1 ≤ a x + f x → ∃ o, H4 x = some o) (g2 : Gd A F H4 a2 f2) (n1 : ∀ x, H4 x = none → H x = none) (ev : ∀ x, 1 ≤ A x + F x → ∃ o, H x = some o) : Gd A F H (fun x => a x + a2 x) (fun x => f x + f2 x) := fun x => by
  obtain ⟨p1, p2, p3⟩ := g x
  obtain ⟨q1, q2, q3⟩ := g2 x
  have th := th x
  have ev := ev x
  have n1 := n1 x
  dsimp only
  by_cases ha : 1 ≤ a x
  · obtain ⟨o, ho⟩ := th (by omega)
    have z2 : a2 x = 0 := Nat.eq_zero_of_not_pos fun w => by have := (q2 w).2; rw [ho] at this; cases this
    have z3 : f2 x = 0 := Nat.eq_zero_of_not_pos fun w => by
      have hn := (p2 ha).2
      rcases q3 w with z | z | z
      · obtain ⟨o', ho'⟩ := ev (by omega); rw [hn] at ho'; cases ho'
      · obtain ⟨o', ho'⟩ := ev (by omega); rw [hn] at ho'; cases ho'
      · rw [ho] at z; cases z
    have := p2 ha
    exact ⟨by omega, fun _ => ⟨by omega, this.2⟩, fun h => by omega⟩
  · refine ⟨by omega, fun h => ?_, fun h => ?_⟩
    · have z := q2 (by omega)
      have zf : f x = 0 := Nat.eq_zero_of_not_pos fun w => by obtain ⟨o, ho⟩ := th (by omega); rw [z.2] at ho; cases ho
      exact ⟨by omega, n1 z.2⟩
    · by_cases z : 1 ≤ f x
      · exact p3 z
      · rcases q3 (by omega) with y | y | y
        · exact .inl y
        · exact .inr (.inl y)
        · exact .inr (.inr (n1 y))
theorem EnvR.fz : ∀ {σm : Env} {σ : L2.St} {A F : Cnt}, EnvR K mg H ρ σm σ A F → ∃ F', EnvR K mg H ρ (fzE σm) σ c0 F' ∧ ∀ x, 1 ≤ F' x → 1 ≤ A x + F x
  | _, _, _, _, .nil a f => ⟨c0, .nil (fun _ => rfl) (fun _ => rfl), fun _ z => no0 z⟩
  | _, _, _, _, .no t => let ⟨F', r, q⟩ := EnvR.fz t; ⟨F', .no r, q⟩
  | _, _, _, _, .yes h t e1 e2 => by
    obtain ⟨F1, r1, q1⟩ := h.fz
    obtain ⟨F2, r2, q2⟩ := EnvR.fz t
    refine ⟨fun x => F1 x + F2 x, .yes r1 r2 (fun _ => rfl) (fun _ => rfl), fun x hx => ?_⟩
    have hx : 1 ≤ F1 x + F2 x := hx
    rw [e1, e2]
    by_cases z : 1 ≤ F1 x
    · have := q1 x z; omega
    · have := q2 x (by omega); omega
theorem EnvR.unset : ∀ {σm : Env} {σ : L2.St} {A F : Cnt} (i : Nat), EnvR K mg H ρ σm σ A F → ∃ A' F', EnvR K mg H ρ (σm.set i none) (σ.set i none) A' F' ∧ ∀ x, A' x ≤ A x ∧ F' x ≤ F x
  | _, _, A, F, i, .nil a f => ⟨A, F, .nil a f, fun _ => ⟨Nat.le_refl _, Nat.le_refl _⟩⟩
  | _, _, A, F, 0, .no t => ⟨A, F, .no t, fun _ => ⟨Nat.le_refl _, Nat.le_refl _⟩⟩
  | _, _, A, F, i + 1, .no t => let ⟨A', F', r, q⟩ := EnvR.unset i t; ⟨A', F', .no r, q⟩
  | _, _, A, F, 0, .yes h t e1 e2 => ⟨_, _, .no t, fun x => by rw [e1, e2]; omega⟩
  | _, _, A, F, i + 1, .yes h t e1 e2 => by
    obtain ⟨A', F', r, q⟩ := EnvR.unset i t
    exact ⟨_, _, .yes h r (fun _ => rfl) (fun _ => rfl), fun x => by have := q x; rw [e1, e2]; omega⟩
theorem EnvR.wipe : ∀ {vs : List Nat}, EnvR K mg H ρ σm σ A F → ∃ A' F', EnvR K mg H ρ (wipeE σm vs) (L2.wipe σ vs) A' F' ∧ ∀ x, A' x ≤ A x ∧ F' x ≤ F x
  | [], h => ⟨A, F, h, fun _ => ⟨Nat.le_refl _, Nat.le_refl _⟩⟩
  | v :: vs, h => by
    obtain ⟨A', F', r, q⟩ := EnvR.wipe (vs := vs) h
    obtain ⟨A2, F2, r2, q2⟩ := r.unset v
    exact ⟨A2, F2, r2, fun x => by have := q x; have := q2 x; omega⟩
theorem wipe_get {σ : L2.St} {j : Nat} : ∀ {vs : List Nat}, (L2.wipe σ vs)[j]? = if j < σ.length then (if j ∈ vs then some none else σ[j]?) else none
  | [] => by
    unfold L2.wipe
    by_cases h : j < σ.length
    · rw [if_pos h, if_neg (by simp)]
    · rw [if_neg h]; simp; omega
  | v :: vs => by
    unfold L2.wipe
    rw [List.getElem?_set]
    by_cases h : j < σ.length
    · rw [if_pos h]
      by_cases e : v = j
      · subst e
        rw [if_pos rfl, if_pos (by rw [wipe_length]; exact h), if_pos (by simp)]
      · rw [if_neg e, wipe_get (vs := vs), if_pos h]
        by_cases m : j ∈ vs
        · rw [if_pos m, if_pos (by simp [m])]
        · rw [if_neg m, if_neg (by simp [m]; exact fun z => e z.symm)]
    · rw [if_neg h]
      split
      · rename_i e; subst e
        rw [if_neg (by rw [wipe_length]; exact h)]
      · rw [wipe_get (vs := vs), if_neg h]
theorem wipe_chg {σ σ' : L2.St} {ss vs : List Nat} (h : Chg ss (L2.wipe σ vs) σ') (hs : ∀ j ∈ ss, j ∈ vs) : L2.wipe σ' vs = L2.wipe σ vs := by
  apply List.ext_getElem?
  intro j
  have hl : σ'.length = σ.length := by rw [h.1, wipe_length]
  rw [wipe_get, wipe_get, hl]
  by_cases hj : j < σ.length
  · rw [if_pos hj, if_pos hj]
    by_cases m : j ∈ vs
    · rw [if_pos m, if_pos m]
    · rw [if_neg m, if_neg m, h.2 j fun z => m (hs j z), wipe_get, if_pos hj, if_neg m]
  · rw [if_neg hj, if_neg hj]
/-- a list of our own, kept apart, is written -/
theorem wd_upd {p : Addr} {l l' : List V} (wd : Wd K mg ρ s H) (hp : H p = some (.lst l)) (hn : p ∉ ρ) : Wd K mg ρ s (upd H p (.lst l')) ∧ Fr (cp p) H (upd H p (.lst l')) ρ ρ := by
  have fr : Fr (cp p) H (upd H p (.lst l')) ρ ρ := by
    refine ⟨fun x o q => ?_, fun x q => ?_, [], by simp, by simp⟩
    · by_cases z : x = p
      · subst z
        rw [hp] at q; cases q
        exact .inr ⟨trivial, .inr (by rw [cp_same]; omega)⟩
      · rw [upd_ne z]; exact .inl q
    · by_cases z : x = p
      · subst z; rw [upd_same] at q; cases q
      · rw [upd_ne z] at q; exact q
  refine ⟨⟨wd.len, wd.nd, fun n b ys z1 z2 => ?_⟩, fr⟩
  obtain ⟨w1, ws, a, f, w2, w3⟩ := wd.at_ n b ys z1 z2
  have nb : b ≠ p := fun z => hn (z ▸ List.mem_of_getElem? z1)
  have zz := w3.plain w1
  exact ⟨w1, ws, a, f, by rw [upd_ne nb]; exact w2, w3.frame fr fun x _ => zz x⟩
end
section
variable {K : PySem.W.Frag} {mg : Str → Option Value} {W : WX} {H : Hp} {σ : L2.St} {src : Src} {tg : Tg} {vs : List Nat} {t : T} {m : M} {z : Bool}
theorem rE_lc {Q : VK} (h : rE K mg W (mLc src tg vs t m) σ H Q) : tLc (rI K mg W false src) (rG K mg tg) (rT K mg W0 t) (rE K mg W0 m) vs σ H Q := by
  obtain ⟨σm, s, ρ, A, F, rel, h⟩ := h
  refine ⟨σm, s, ρ, A, F, rel, ?_⟩
  unfold mLc at h
  cases e : src σm s with
  | bad => rw [e] at h; exact h
  | ex x s1 => rw [e] at h; exact h
  | ok items s1 =>
    rw [e, Zm.R.bind_ok] at h
    intro J H1 ρ1 f fr wd it hf Da hDa
    by_cases hw : tg.within vs = true
    rotate_left
    · rw [if_neg hw] at h; exact h.elim
    rw [if_pos hw] at h
    have hss : ∀ j ∈ tg.slots, j ∈ vs := fun j hj => by
      unfold Tg.within at hw
      have := List.all_eq_true.mp hw j hj
      simpa using this
    obtain ⟨hft, G, Y, wk, st⟩ := it
    have rel1 := rel.next fr wd
    have sm0 : Same H1 (upd H1 Da (.lst [])) := same_upd hDa
    have nD : Da ∉ ρ1 := fun z => by obtain ⟨l, q⟩ := wd.lst z; rw [hDa] at q; cases q
    have fD : f Da = 0 := Nat.eq_zero_of_not_pos fun w => by obtain ⟨o, ho⟩ := hft Da w; rw [hDa] at ho; cases ho
    obtain ⟨Fz, envz, hFz⟩ := rel1.env.fz
    obtain ⟨Aw, Fw, envw, hw2⟩ := envz.wipe (vs := vs)
    have zAw : ∀ x, Aw x = 0 := fun x => by have := (hw2 x).1; have z0 : c0 x = 0 := rfl; omega
    have FwD : Fw Da = 0 := Nat.eq_zero_of_not_pos fun w => by
      have := hFz Da (by have := (hw2 Da).2; omega)
      obtain ⟨⟨o, ho⟩, _⟩ := rel1.env.there Da this
      rw [hDa] at ho; cases ho
    let F1 : Cnt := fun x => F x + f x
    have ev1 : ∀ x, 1 ≤ A x + F1 x → ∃ o, H1 x = some o := fun x z => by
      have z : 1 ≤ A x + (F x + f x) := z
      by_cases w : 1 ≤ f x
      · exact hft x w
      · exact (rel1.env.there x (by omega)).1
    refine lc_it wk (fun i H' => ∃ s' ρ' acc vs' a f', Fr (cp Da) (upd H1 Da (.lst [])) H' ρ1 ρ' ∧ Wd K mg ρ' s' H' ∧ H' Da = some (.lst vs') ∧ Da ∉ ρ' ∧ Reps K mg H' ρ' acc vs' a f' ∧ Gd A F1 H1 a f' ∧ a Da = 0 ∧ f' Da = 0 ∧ oE K mg W σ A F H ρ Q (lcR tg t m (wipeE (fzE σm) vs) (items.drop i) acc s'))
      ⟨s1, ρ1, [], [], c0, c0, .refl, wd.same sm0, upd_same, nD, .nil (fun _ => rfl) (fun _ => rfl), .zero (fun _ => rfl) (fun _ => rfl), rfl, rfl, by simpa using h⟩ ?_ ?_ ?_
    · rintro i H' _ ⟨s', ρ', acc, vs', a, f', fr', _⟩
      have fr2 : Fr (cp Da) H1 H' ρ1 ρ' := Fr.trans (Fr.of_same (Mc := cp Da) sm0) fr' fun x z => .inl z
      exact (st (cp Da) H' ρ' fr2 fun x z => by
        by_cases w : x = Da
        · rw [w]; exact fD
        · rw [cp_ne w] at z; omega).1
    · rintro i x H' H2 hi ⟨s', ρ', acc, vs', a, f', fr', wd', hD', nD', rps, gd, aD, fD', h'⟩ hy
      have fr2 : Fr (cp Da) H1 H' ρ1 ρ' := Fr.trans (Fr.of_same (Mc := cp Da) sm0) fr' fun x z => .inl z
      have hit : items[i]? = some items[i] := List.getElem?_eq_getElem hi
      obtain ⟨sm, f2, rp, le⟩ := (st (cp Da) H' ρ' fr2 fun x z => by
        by_cases w : x = Da
        · rw [w]; exact fD
        · rw [cp_ne w] at z; omega).2 i _ x H2 hit hy
      rw [List.drop_eq_getElem_cons hi] at h'
      unfold lcR at h'
      cases eb : tg.bind items[i] (wipeE (fzE σm) vs) with
      | none => simp only [eb] at h'; exact h'.elim
      | some σ1 =>
        simp only [eb] at h'
        have env2 : EnvR K mg H2 ρ' (wipeE (fzE σm) vs) (L2.wipe σ vs) Aw Fw := ((envw.frame fr2 fun x z => ⟨zAw x, by
          by_cases w : x = Da
          · rw [w]; exact FwD
          · rw [cp_ne w] at z; omega⟩)).frame (Fr.of_same (Mc := c0) sm) fun _ z => no0 z
        have relw : Rel K mg (wipeE (fzE σm) vs) s' (L2.wipe σ vs) H2 ρ' Aw Fw := ⟨env2, wd'.same sm, fun x => ⟨by have := zAw x; omega, fun z => by have := zAw x; omega⟩⟩
        refine ⟨_, s', ρ', Aw, Fw, _, f2, relw, rp, fun x _ => zAw x, σ1, eb, fun σ2 A2 F2 rel2 le2 ch => ⟨wipe_chg ch hss, ?_⟩⟩
        have zA2 : ∀ x, A2 x = 0 := fun x => by have := (le2 x).1; have := zAw x; omega
        have F2s : ∀ x, 1 ≤ F2 x → 1 ≤ A x ∨ 1 ≤ F1 x := fun x z => by
          rcases (le2 x).2 z with w | w
          · have := hFz x (by have := (hw2 x).2; omega)
            by_cases u : 1 ≤ A x
            · exact .inl u
            · exact .inr (show 1 ≤ F x + f x by omega)
          · exact .inr (show 1 ≤ F x + f x by have := le x; omega)
        have F2D : F2 Da = 0 := Nat.eq_zero_of_not_pos fun w => by
          rcases (le2 Da).2 w with u | u
          · omega
          · have := le Da; omega
        refine ⟨σ1, s', ρ', A2, F2, rel2, ?_⟩
        have hD2 : H2 Da = some (.lst vs') := sm _ _ hD'
        cases et : t σ1 s' with
        | bad => simp only [et] at h'; exact h'.elim
        | ex y s3 => simp only [et] at h'; exact h'.elim
        | ok b s3 =>
          simp only [et] at h'
          intro H4 ρ4 fr4 wd4
          have hD4 : H4 Da = some (.lst vs') := by
            rcases fr4.keep _ _ hD2 with y | ⟨_, y | y⟩
            · exact y
            · exact (nD' y).elim
            · exact no0 y
          have frA : Fr (cp Da) (upd H1 Da (.lst [])) H4 ρ1 ρ4 := (fr'.trans (Fr.of_same (Mc := c0) sm) fun _ z => no0 z).trans fr4 fun _ z => no0 z
          have rps4 : Reps K mg H4 ρ4 acc vs' a f' := (rps.sm sm).on fr4
          cases b with
          | false => exact iteF ⟨s3, ρ4, acc, vs', a, f', frA, wd4, hD4, fr4.nmem hD2 nD', rps4, gd, aD, fD', by simpa using h'⟩
          | true =>
            refine iteT ⟨σ1, s3, ρ4, A2, F2, rel2.next fr4 wd4, ?_⟩
            rw [if_pos rfl] at h'
            cases em : m σ1 s3 with
            | bad => simp only [em] at h'; exact h'.elim
            | ex y s5 => simp only [em] at h'; exact h'.elim
            | ok xd s5 =>
              simp only [em] at h'
              intro v H5 ρ5 a5 f5 fr5 wd5 rp5 g5
              split at h'
              · rename_i hz
                have hD5 : H5 Da = some (.lst vs') := by
                  rcases fr5.keep _ _ hD4 with y | ⟨_, y | y⟩
                  · exact y
                  · exact (fr4.nmem hD2 nD' y).elim
                  · exact no0 y
                have nD5 : Da ∉ ρ5 := fr5.nmem hD4 (fr4.nmem hD2 nD')
                obtain ⟨wd6, fr6⟩ := wd_upd (l' := vs' ++ [v]) wd5 hD5 nD5
                have a5D : a5 Da = 0 := Nat.eq_zero_of_not_pos fun w => by have := ((g5 Da).2.1 w).2; rw [hD4] at this; cases this
                have f5D : f5 Da = 0 := Nat.eq_zero_of_not_pos fun w => by
                  rcases (g5 Da).2.2 w with u | u | u
                  · have := zA2 Da; omega
                  · omega
                  · rw [hD4] at u; cases u
                have off : ∀ {a f : Cnt}, a Da = 0 → f Da = 0 → ∀ x, 1 ≤ cp Da x → a x = 0 ∧ f x = 0 := fun h1 h2 x z => by
                  by_cases w : x = Da
                  · rw [w]; exact ⟨h1, h2⟩
                  · rw [cp_ne w] at z; omega
                have g5' : Gd A F1 H4 a5 f5 := fun x => ⟨(g5 x).1, (g5 x).2.1, fun w => by
                  rcases (g5 x).2.2 w with u | u | u
                  · have := zA2 x; omega
                  · exact (F2s x u).elim .inl fun u => .inr (.inl u)
                  · exact .inr (.inr u)⟩
                refine ⟨vs', hD5, by rw [← rps.length]; exact hz, s5, ρ5, acc ++ [xd], vs' ++ [v], _, _, ?_, wd6, upd_same, nD5, ((rps4.on fr5).frame fr6 (off aD fD')).append (Reps.one (rp5.frame fr6 (off a5D f5D))), ?_, ?_, ?_, h'⟩
                · exact (frA.trans fr5 fun _ z => no0 z).trans fr6 fun x z => .inl z
                · exact gd.add (fun x z => (rps4.there x z).1) g5' (fun x z => by have := frA.there x z; by_cases w : x = Da; (rw [w]; exact hDa); (rw [upd_ne w] at this; exact this)) ev1
                · show a Da + a5 Da = 0; omega
                · show f' Da + f5 Da = 0; omega
              · exact h'.elim
    · rintro H' ⟨s', ρ', acc, vs', a, f', fr', wd', hD', nD', rps, gd, aD, fD', h'⟩
      rw [List.drop_length] at h'
      have fr2 : Fr c0 H1 H' ρ1 ρ' := by
        refine ⟨fun x o q => ?_, fun x q => ?_, fr'.ext.imp fun r ⟨e, n⟩ => ⟨e, fun p hp => ?_⟩⟩
        · rcases fr'.keep x o (sm0 x o q) with y | ⟨l, y | y⟩
          · exact .inl y
          · exact .inr ⟨l, .inl y⟩
          · by_cases w : x = Da
            · rw [w, hDa] at q; cases q
            · rw [cp_ne w] at y; omega
        · have := fr'.there x q
          exact sm0.free this
        · exact sm0.free (n p hp)
      refine h' (.ref Da) H' ρ' (fun x => cp Da x + a x) f' (fr.tr fr2) wd' (.own hD' nD' rps (fun _ => rfl)) fun x => ?_
      obtain ⟨g1, g2, g3⟩ := gd x
      have g3' : 1 ≤ f' x → 1 ≤ A x ∨ 1 ≤ F x ∨ H x = none := fun z => by
        rcases g3 z with w | w | w
        · exact .inl w
        · have w : 1 ≤ F x + f x := w
          by_cases u : 1 ≤ F x
          · exact .inr (.inl u)
          · exact (hf x (by omega)).2
        · exact .inr (.inr (fr.there x w))
      dsimp only
      by_cases w : x = Da
      · subst w
        rw [cp_same]
        exact ⟨by omega, fun _ => ⟨fD', fr.there _ hDa⟩, g3'⟩
      · rw [cp_ne w]
        exact ⟨by omega, fun z => ⟨(g2 (by omega)).1, fr.there x (g2 (by omega)).2⟩, g3'⟩
end
section
variable {X : Cx} {W : WX} {tge iter elt c : Expr} {ifs : List Expr} {src : Src} {tg : Tg} {t : T} {m : M} {pos : Pos} {scope : Scope} {own : List (Str × Nat)}
def STs (X : Cx) (W : WX) (es : List Expr) (t : T) : Prop := PTs X es (rT X.K X.mg W t)
theorem sts_nil : STs X W [] tTrue := ⟨fun pins s σ H Q I ⟨σm, s', ρ, A, F, rel, h⟩ => pts_nil.run pins s σ H Q I (h H ρ .refl rel.wd)⟩
theorem sts_one (h : ST X W c t) : STs X W [c] t := pts_one h
theorem s_lc (hc : X.calm = true) (nd : X.N.Nodup) (hi : SI X W false tge iter src) (ok : BlkOk X.N X.env.scope scope own)
    (hg : ∀ (s : Shared) (H : Hp) (C : Addr) (cl : List (Str × Addr)) (fp : List Addr), SG (X.blk s H scope (compEnvC scope cl C X.env) fp) tge tg)
    (ht : ∀ (s : Shared) (H : Hp) (C : Addr) (cl : List (Str × Addr)) (fp : List Addr), STs (X.blk s H scope (compEnvC scope cl C X.env) fp) W0 ifs t)
    (he : ∀ (s : Shared) (H : Hp) (C : Addr) (cl : List (Str × Addr)) (fp : List Addr), SE (X.blk s H scope (compEnvC scope cl C X.env) fp) W0 elt m) (hs : ∀ x, foldedSetIterable iter X.env x = pure x := by intro _; rfl) :
    SE X W (.ListComp elt [⟨tge, iter, ifs, 0⟩] scope pos) (mLc src tg (own.map (·.2)) t m) :=
  PE.imp (pe_lc (g := rG X.K X.mg tg) (tt := rT X.K X.mg W0 t) (te := rE X.K X.mg W0 m) hc nd hi ok hg ht he hs) fun σ H Q h => rE_lc h
theorem SI.weak (h : SI X W true tge iter src) : SI X W false tge iter src := PI.imp h fun σ H Q ⟨σm, s, ρ, A, F, rel, q⟩ => by
  refine ⟨σm, s, ρ, A, F, rel, ?_⟩
  cases e : src σm s with
  | bad => rw [e] at q; exact q
  | ex x s1 => rw [e] at q; exact q
  | ok ds s1 => rw [e] at q; exact fun J H' ρ' f a b c d => q J H' ρ' f a b c fun x z => Bool.noConfusion (d x z).1
end
end Zm
set_option Elab.async false
set_option linter.all false
set_option maxRecDepth 100000
set_option autoImplicit false
/-! Z9: what is walked: lists, tuples, ranges, zip, enumerate, reversed. -/
namespace Zm
open PySem PySem.Spec PyProof.Rows L2
def itemsOf : D → Option (List D)
  | .lst _ xs => some (fzs xs)
  | .tup xs => some (fzs xs)
  | .ro ns => some (ns.map .int)
  | _ => none
/-- the signs of a text -/
def signs (z : Str) : List D := z.cps.toList.map fun c => .str ⟨#[c]⟩
def iSeq (m : M) : Src := fun σ s => (m σ s).bind fun d s' => match d with
  | .str z => .ok (signs z) s'
  | d => R.of (itemsOf d) s'
def zip2 (xs ys : List D) : List D := List.zipWith (fun x y => .tup [x, y]) xs ys
def enumF : Nat → List D → List D
  | _, [] => []
  | n, x :: xs => .tup [.int (n : Nat), x] :: enumF (n + 1) xs
def iEnum (m : M) : Src := fun σ s => (m σ s).bind fun d s' => match itemsOf d with
  | some xs => .ok (enumF 0 xs) s'
  | none => .bad
theorem enumF_length : ∀ (n : Nat) (xs : List D), (enumF n xs).length = xs.length
  | _, [] => rfl
  | n, x :: xs => by simp [enumF, enumF_length (n + 1) xs]
theorem enumF_get : ∀ (n : Nat) (xs : List D) (i : Nat) (d : D), (enumF n xs)[i]? = some d → ∃ x, xs[i]? = some x ∧ d = .tup [.int ((n + i : Nat) : Int), x]
  | n, [], i, d, h => by simp [enumF] at h
  | n, x :: xs, 0, d, h => by simp [enumF] at h; exact ⟨x, rfl, h.symm⟩
  | n, x :: xs, i + 1, d, h => by
    obtain ⟨y, e1, e2⟩ := enumF_get (n + 1) xs i d (by simpa [enumF] using h)
    exact ⟨y, by simpa using e1, by rw [e2, show n + 1 + i = n + (i + 1) by omega]⟩
section
variable {K : PySem.W.Frag} {mg : Str → Option Value} {H : Hp} {ρ : List Addr}
theorem reps_ints : ∀ ns : List Int, Reps K mg H ρ (ns.map D.int) (ns.map V.int) c0 c0
  | [] => .nil (fun _ => rfl) (fun _ => rfl)
  | n :: ns => .cons (.int (fun _ => rfl) (fun _ => rfl)) (reps_ints ns) (A := c0) (F := c0) (a := c0) (f := c0) (fun _ => rfl) (fun _ => rfl)
/-- a row that is walked -/
theorem sq_of {d : D} {xs : List D} {v : V} {a f : Cnt} (e : itemsOf d = some xs) (r : Rep K mg H ρ d v a f) : ∃ (b : Bool) (p : Addr) (vs : List V) (f' : Cnt), v = .ref p ∧ Zi.Sq K b H p vs ∧ Reps K mg H ρ xs vs c0 f' ∧ (∀ x, 1 ≤ f' x → ∃ o, H x = some o) ∧
    (b = true → ∃ ds, d = .tup ds) ∧ (b = false → (∃ o ds, d = .lst o ds) ∨ ∃ ns, d = .ro ns) ∧ ∃ g : Cnt, (∀ x, f' x ≤ g x) ∧ (∀ x, 1 ≤ g x → 1 ≤ a x + f x) ∧ ∀ (Mc : Cnt) (H1 : Hp) (ρ1 : List Addr), Fr Mc H H1 ρ ρ1 → (∀ x, 1 ≤ Mc x → g x = 0) → Zi.Sq K b H1 p vs := by
  obtain ⟨f2, r2, q⟩ := r.fz
  cases d <;> simp only [itemsOf, Option.some.injEq, reduceCtorEq] at e
  · subst e
    cases r2 with
    | tup h t => exact ⟨true, _, _, _, rfl, SqT.of h, t, fun x z => (t.there x (by omega)).1, fun _ => ⟨_, rfl⟩, fun z => Bool.noConfusion z, f2, fun _ => Nat.le_refl _, q, fun Mc H1 ρ1 fr _ => SqT.of (fr.rdT h)⟩
  · subst e
    cases r2 with
    | frz h hp t e =>
      refine ⟨false, _, _, _, rfl, SqL.of h, t, fun x z => (t.there x (by omega)).1, fun z => Bool.noConfusion z, fun _ => .inl ⟨_, _, rfl⟩, f2, fun x => by rw [e]; omega, q, fun Mc H1 ρ1 fr hm => ?_⟩
      rcases fr.keep _ _ h with z | ⟨_, z | z⟩
      · exact SqL.of z
      · exact (hp z).elim
      · have := hm _ z; rw [e, cp_same] at this; omega
  · subst e
    cases r2 with
    | ro h z1 z2 =>
      refine ⟨false, _, _, c0, rfl, h.L, ?_, fun x z => no0 z, fun z => Bool.noConfusion z, fun _ => .inr ⟨_, rfl⟩, c0, fun _ => Nat.le_refl _, fun _ z => no0 z, fun Mc H1 ρ1 fr _ => (fr.rdR h).L⟩
      exact reps_ints _
/-- ItOK for one row -/
theorem it_row {J : It} {ds : List D} {vs : List V} {f g : Cnt} {S : Hp → Prop} (t : Reps K mg H ρ ds vs c0 f) (le : ∀ x, f x ≤ g x) (th : ∀ x, 1 ≤ g x → ∃ o, H x = some o) (stay : ∀ (Mc : Cnt) (H1 : Hp) (ρ1 : List Addr), Fr Mc H H1 ρ ρ1 → (∀ x, 1 ≤ Mc x → g x = 0) → S H1)
    (wk : Walk J vs.length S (YAt vs)) : ItOK K mg J ds H ρ g := by
  refine ⟨th, S, YAt vs, by rw [t.length]; exact wk, fun Mc H1 ρ1 fr hm => ⟨stay Mc H1 ρ1 fr hm, fun i d x H2 e y => ?_⟩⟩
  obtain ⟨rfl, hx⟩ := y
  have t1 := t.frame fr fun x hx => ⟨rfl, by have := hm x hx; have := le x; omega⟩
  obtain ⟨v, a', f2, e2, rp, le2⟩ := t1.at e
  rw [e2] at hx; cases hx
  have za : a' = c0 := funext fun x => by have := (le2 x).1; have z0 : c0 x = 0 := rfl; omega
  subst za
  exact ⟨fun _ _ h => h, f2, rp, fun x => by have := (le2 x).2; have := le x; omega⟩
theorem g_there {d : D} {v : V} {a f g : Cnt} (r : Rep K mg H ρ d v a f) (q : ∀ x, 1 ≤ g x → 1 ≤ a x + f x) : ∀ x, 1 ≤ g x → ∃ o, H x = some o := fun x z => (r.there x (q x z)).1
theorem gd_src {A F a f g : Cnt} {H0 : Hp} (gd : Gd A F H0 a f) (q : ∀ x, 1 ≤ g x → 1 ≤ a x + f x) : ∀ x, 1 ≤ g x → false = false ∧ (1 ≤ A x ∨ 1 ≤ F x ∨ H0 x = none) := fun x z => ⟨rfl, by
  obtain ⟨p1, p2, p3⟩ := gd x
  have := q x z
  by_cases w : 1 ≤ a x
  · exact .inr (.inr (p2 w).2)
  · exact p3 (by omega)⟩
end
section
variable {X : Cx} {W : WX} {tge e e2 e3 : Expr} {m ma mb mc : M} {ms : List M} {es : List Expr} {p pos tpos : Pos} {elts : List Expr} {kk : Nat}
theorem si_seq (he : SE X W e m) : SI X W false tge e (iSeq m) := by
  constructor
  intro pins s0 σ H R I ⟨σm, s, ρ, A, F, rel, h⟩
  unfold iSeq at h
  have key : ∀ (Q : VK), oE X.K X.mg W σ A F H ρ Q (m σm s) → rE X.K X.mg W m σ H Q := fun Q q => ⟨σm, s, ρ, A, F, rel, q⟩
  cases em : m σm s with
  | bad => rw [em] at h; exact h.elim
  | ex x s1 =>
    rw [em] at h
    exact (pi_list he).run pins s0 σ H R I (key _ (by rw [em]; exact h))
  | ok d s1 =>
    rw [em, Zm.R.bind_ok] at h
    cases d with
    | str z =>
      refine (pi_str he).run pins s0 σ H R I (key _ ?_)
      rw [em]
      intro v H1 ρ1 a f fr wd rp gd
      cases rp
      refine ⟨z, rfl, h _ H1 ρ1 c0 fr wd ?_ fun x w => no0 w⟩
      refine ⟨fun _ hx => no0 hx, _, _, by unfold signs; rw [List.length_map, Array.length_toList]; exact walk_str, fun Mc H2 ρ2 fr2 hm => ⟨trivial, fun i d x H3 e y => ?_⟩⟩
      obtain ⟨rfl, c, ec, rfl⟩ := y
      unfold signs at e
      simp [ec] at e
      subst e
      exact ⟨fun _ _ h => h, c0, .str (fun _ => rfl) (fun _ => rfl), fun _ => Nat.le_refl _⟩
    | lst o ds =>
      refine (pi_list he).run pins s0 σ H R I (key _ ?_)
      rw [em]
      intro v H1 ρ1 a f fr wd rp gd
      obtain ⟨b, p, vs, f', ev, sq, t, th, b1, b2, g, le, q, stay⟩ := sq_of (xs := fzs ds) rfl rp
      have hb : b = false := by cases b with
        | false => rfl
        | true => obtain ⟨_, z⟩ := b1 rfl; cases z
      subst hb
      exact ⟨p, ev, ⟨vs, sq⟩, h _ H1 ρ1 g fr wd (it_row t le (g_there rp q) stay walk_list) (gd_src gd q)⟩
    | ro ns =>
      refine (pi_list he).run pins s0 σ H R I (key _ ?_)
      rw [em]
      intro v H1 ρ1 a f fr wd rp gd
      obtain ⟨b, p, vs, f', ev, sq, t, th, b1, b2, g, le, q, stay⟩ := sq_of (xs := ns.map D.int) rfl rp
      have hb : b = false := by cases b with
        | false => rfl
        | true => obtain ⟨_, z⟩ := b1 rfl; cases z
      subst hb
      exact ⟨p, ev, ⟨vs, sq⟩, h _ H1 ρ1 g fr wd (it_row t le (g_there rp q) stay walk_list) (gd_src gd q)⟩
    | tup ds =>
      refine (pi_tup he).run pins s0 σ H R I (key _ ?_)
      rw [em]
      intro v H1 ρ1 a f fr wd rp gd
      obtain ⟨b, p, vs, f', ev, sq, t, th, b1, b2, g, le, q, stay⟩ := sq_of (xs := fzs ds) rfl rp
      have hb : b = true := by cases b with
        | true => rfl
        | false => rcases b2 rfl with ⟨_, _, z⟩ | ⟨_, z⟩ <;> cases z
      subst hb
      exact ⟨p, ev, ⟨vs, sq⟩, h _ H1 ρ1 g fr wd (it_row t le (g_there rp q) stay walk_tup) (gd_src gd q)⟩
    | _ => exact h.elim
theorem inv_int {K : PySem.W.Frag} {mg : Str → Option Value} {H : Hp} {ρ : List Addr} {i : Int} {v : V} {A F : Cnt} (h : Rep K mg H ρ (.int i) v A F) : v = .int i := by cases h; rfl
theorem si_range1 (hm : X.mg "range" = none) (ha : SA X W [e] ms) (hg : Gl X "range" := by rfl) (hs : starEach [e] X.env = [(false, eval e X.env)] := by rfl) : SI X W true tge (.Call (.Name "range" p) [e] [] pos) (iR1 ms) :=
  PI.imp (pi_range1 hg hm ha hs) fun σ H R ⟨σm, s, ρ, A, F, rel, h⟩ => by
    refine ⟨σm, s, ρ, A, F, rel, ?_⟩
    unfold iR1 at h
    cases em : mArgs ms σm s with
    | bad => rw [em] at h; exact h
    | ex x s1 => rw [em] at h; exact h
    | ok ds s1 =>
      rw [em, Zm.R.bind_ok] at h
      intro vs H1 ρ1 a f fr wd rp gd
      split at h
      · split at h
        · rename_i hb
          simp only [big, decide_eq_true_eq] at hb
          obtain ⟨v, rfl, r⟩ := rp.inv1
          exact ⟨_, by rw [inv_int r], hb.1, hb.2, h _ H1 ρ1 c0 fr wd it_range fun x w => no0 w⟩
        · exact h.elim
      · exact h.elim
theorem si_range2 (hm : X.mg "range" = none) (ha : SA X W [e, e2] ms) (hg : Gl X "range" := by rfl) (hs : starEach [e, e2] X.env = [(false, eval e X.env), (false, eval e2 X.env)] := by rfl) (hs2 : starEach [e2] X.env = [(false, eval e2 X.env)] := by rfl) : SI X W true tge (.Call (.Name "range" p) [e, e2] [] pos) (iR2 ms) :=
  PI.imp (pi_range2 hg hm ha hs hs2) fun σ H R ⟨σm, s, ρ, A, F, rel, h⟩ => by
    refine ⟨σm, s, ρ, A, F, rel, ?_⟩
    unfold iR2 at h
    cases em : mArgs ms σm s with
    | bad => rw [em] at h; exact h
    | ex x s1 => rw [em] at h; exact h
    | ok ds s1 =>
      rw [em, Zm.R.bind_ok] at h
      intro vs H1 ρ1 a f fr wd rp gd
      split at h
      · split at h
        · rename_i hb
          simp only [big, decide_eq_true_eq] at hb
          obtain ⟨v, v', _, _, _, _, rfl, r, r', _⟩ := rp.inv2
          exact ⟨_, _, by rw [inv_int r, inv_int r'], ⟨hb.1.1, hb.1.2, hb.2.1, hb.2.2⟩, h _ H1 ρ1 c0 fr wd it_range fun x w => no0 w⟩
        · exact h.elim
      · exact h.elim
theorem si_enum (hm : X.mg "enumerate" = none) (he : SE X W e m) (hg : Gl X "enumerate" := by rfl) (hs : starEach [e] X.env = [(false, eval e X.env)] := by rfl) : SI X W false (.Tuple elts kk tpos) (.Call (.Name "enumerate" p) [e] [] pos) (iEnum m) :=
  PI.imp (Zi.pi_e hm (pa_cons he pa_nil hs) hg hs) fun σ H R ⟨σm, s, ρ, A, F, rel, h⟩ => by
    refine ⟨σm, s, ρ, A, F, rel, ?_⟩
    unfold iEnum at h
    cases em : m σm s with
    | bad => rw [em] at h; exact h
    | ex x s1 => rw [em] at h; exact h
    | ok d s1 =>
      rw [em, Zm.R.bind_ok] at h
      intro v H1 ρ1 a f fr wd rp gd
      cases ei : itemsOf d with
      | none => simp only [ei] at h; exact h.elim
      | some xs =>
        simp only [ei] at h
        obtain ⟨b1, p1, vs1, f1', rfl, sq1, t1, th1, _, _, g1, le1, q1, st1⟩ := sq_of ei rp
        refine ⟨b1, p1, vs1, rfl, sq1, h _ H1 ρ1 g1 fr wd ⟨g_there rp q1, fun H => Zi.Sq X.K b1 H p1 vs1, YPair (fun i => some (.int (i : Nat))) (fun i => vs1[i]?), ?_, fun Mc H2 ρ2 fr2 hm => ?_⟩ (gd_src gd q1)⟩
        · rw [enumF_length, t1.length]
          refine ⟨fun i H hi s1 => ⟨vs1, vs1[i], s1, List.getElem?_eq_getElem hi⟩, fun H s1 => ⟨vs1, s1, rfl⟩, fun i H v H' hi s1 y => ?_⟩
          obtain ⟨T, x, y1, y2, y3, y4⟩ := y
          exact ⟨T, _, x, y1, y2, y3, rfl, y4 _ s1⟩
        · refine ⟨st1 Mc H2 ρ2 fr2 hm, fun i d x H3 e y => ?_⟩
          obtain ⟨T, u1, u2, rfl, hT, rfl, w1, w2⟩ := y
          have w1 : some (V.int (i : Nat)) = some u1 := w1
          have w2 : vs1[i]? = some u2 := w2
          cases w1
          have t1' := t1.frame fr2 fun x hx => ⟨rfl, by have := hm x hx; have := le1 x; omega⟩
          obtain ⟨x1, z1, rfl⟩ := enumF_get _ _ _ _ e
          obtain ⟨v1, a1', f4, e4, rp4, le4⟩ := t1'.at z1
          rw [e4] at w2; cases w2
          have za : a1' = c0 := funext fun x => by have := (le4 x).1; have z0 : c0 x = 0 := rfl; omega
          subst za
          have ri : Rep X.K X.mg H2 ρ2 (.int ((0 + i : Nat) : Int)) (.int ((i : Nat) : Int)) c0 c0 := by rw [Nat.zero_add]; exact .int (fun _ => rfl) (fun _ => rfl)
          exact ⟨same_upd hT, f4, new_tup hT (.cons ri (Reps.one rp4) (A := c0) (F := f4) (fun _ => rfl) (fun x => by show f4 x = 0 + f4 x; omega)), fun x => by have := (le4 x).2; have := le1 x; omega⟩
end
end Zm
set_option Elab.async false
set_option linter.all false
set_option maxRecDepth 100000
set_option autoImplicit false
/-! Z10: operators, subscripts, comparisons by machine. -/
namespace Zm
open PySem PySem.Spec PyProof.Rows L2
section
variable {K : PySem.W.Frag} {mg : Str → Option Value} {H H' : Hp} {ρ : List Addr} {d e : D} {ds xs ys : List D} {v : V} {vs : List V} {a f a' f' a1 f1 : Cnt} {o : Bool}
theorem Sp1.le (h : Sp1 a f) (q : ∀ x, a1 x ≤ a x ∧ f1 x ≤ f x) : Sp1 a1 f1 := fun x => by
  have := h x; have := q x
  exact ⟨by omega, fun z => by have := (h x).2 (by omega); omega⟩
theorem Out.le (h : Out a1 f1 H a' f') (q : ∀ x, a1 x ≤ a x ∧ f1 x ≤ f x) : Out a f H a' f' := fun x => by
  obtain ⟨p1, p2, p3⟩ := h x
  have := q x
  refine ⟨p1, fun z => ⟨(p2 z).1, ?_⟩, fun z => ?_⟩
  · rcases (p2 z).2 with w | w
    · exact .inl w
    · exact .inr (by omega)
  · rcases p3 z with w | w | w
    · exact .inl (by omega)
    · exact .inr (.inl (by omega))
    · exact .inr (.inr w)
theorem inv_lst (h : Rep K mg H ρ (.lst o xs) v a f) : ∃ p vs a1 f1, v = .ref p ∧ H p = some (.lst vs) ∧ Reps K mg H ρ xs vs a1 f1 ∧ ∀ x, a1 x ≤ a x ∧ f1 x ≤ f x := by
  cases h with
  | own h _ t e => exact ⟨_, _, _, _, rfl, h, t, fun x => by rw [e]; omega⟩
  | frz h _ t e => exact ⟨_, _, _, _, rfl, h, t, fun x => by rw [e]; omega⟩
theorem inv_tup (h : Rep K mg H ρ (.tup xs) v a f) : ∃ p vs, v = .ref p ∧ H p = some (.tup vs) ∧ Reps K mg H ρ xs vs a f := by
  cases h with
  | tup h t => exact ⟨_, _, rfl, h, t⟩
theorem inv_str {z : Str} (h : Rep K mg H ρ (.str z) v a f) : v = .str z := by cases h; rfl
theorem inv_bl {b : Bool} (h : Rep K mg H ρ (.bl b) v a f) : v = .bl b := by cases h; rfl
theorem inv_non (h : Rep K mg H ρ .non v a f) : v = .non := by cases h; rfl
mutual
theorem Rep.dp : ∀ {d : D} {v : V} {a f : Cnt} {x : PyData}, pd d = some x → Rep K mg H ρ d v a f → Dp K H v x
  | .non, _, _, _, _, e, h => by cases h; cases e; exact .non
  | .bl _, _, _, _, _, e, h => by cases h; cases e; exact .bl _
  | .int _, _, _, _, _, e, h => by cases h; cases e; exact .int _
  | .str _, _, _, _, _, e, h => by cases h; cases e; exact .str _
  | .tup xs, _, _, _, _, e, h => by
    cases h with
    | tup q t =>
      rw [pd, Option.map_eq_some_iff] at e
      obtain ⟨ys, e1, rfl⟩ := e
      exact .tup (SqT.of q) (Reps.dp e1 t)
  | .lst _ xs, _, _, _, _, e, h => by
    rw [pd, Option.map_eq_some_iff] at e
    obtain ⟨ys, e1, rfl⟩ := e
    obtain ⟨p, vs, a1, f1, rfl, hp, t, _⟩ := inv_lst h
    exact .lst (SqL.of hp) (Reps.dp e1 t)
  | .ro ns, _, _, _, _, e, h => by
    cases h with
    | ro q _ _ =>
      cases e
      exact .lst q.L (ints_dp ns)
  | .dic _ _ _ _, _, _, _, _, e, _ => by cases e
  | .dil _ _ _, _, _, _, _, e, _ => by cases e
  | .box _, _, _, _, _, e, _ => by cases e
  | .fn _, _, _, _, _, e, _ => by cases e
  | .ty _, _, _, _, _, e, _ => by cases e
  | .exc _ _, _, _, _, _, e, _ => by cases e
theorem Reps.dp : ∀ {ds : List D} {vs : List V} {a f : Cnt} {xs : List PyData}, pds ds = some xs → Reps K mg H ρ ds vs a f → DpAll K H vs xs
  | [], _, _, _, _, e, h => by cases h; cases e; exact .nil
  | d :: ds, _, _, _, _, e, h => by
    cases h with
    | cons h t _ _ =>
      rw [pds] at e
      cases e1 : pd d with
      | none => rw [e1] at e; cases e
      | some y =>
        cases e2 : pds ds with
        | none => rw [e1, e2] at e; cases e
        | some ys =>
          rw [e1, e2] at e
          cases e
          exact .cons (Rep.dp e1 h) (Reps.dp e2 t)
theorem ints_dp : ∀ ns : List Int, DpAll K H (ns.map V.int) (ns.map PyData.int)
  | [] => .nil
  | n :: ns => .cons (.int n) (ints_dp ns)
end
theorem Reps.ints : ∀ {ns : List Int} {vs : List V} {a f : Cnt}, Reps K mg H ρ (ns.map D.int) vs a f → vs = ns.map V.int
  | [], _, _, _, h => by cases h; rfl
  | n :: ns, _, _, _, h => by
    cases h with
    | cons h t _ _ => rw [inv_int h, Reps.ints t]; rfl
end
/-- ints of a list of trees -/
def toInts : List D → Option (List Int)
  | [] => some []
  | .int i :: ds => (toInts ds).map (i :: ·)
  | _ => none
@[simp] theorem toInts_map (ns : List Int) : toInts (ns.map D.int) = some ns := by
  induction ns with
  | nil => rfl
  | cons n ns ih => simp [toInts, ih]
section
variable {K : PySem.W.Frag} {mg : Str → Option Value} {H : Hp} {ρ : List Addr} {s : Sto}
end
/-! ### numbers -/
def sm (i : Int) : Bool := decide (i.natAbs < 2 ^ 1900)
theorem sm_log {i : Int} (h : sm i = true) : i.natAbs.log2 < 1900 := PySem.Flt.log2_lt_of (by omega) (of_decide_eq_true h)
@[simp] def gAdd : Sto → List D → Option D := fun _ ds => match ds with
  | [.int i, .int j] => some (.int (i + j))
  | [.str x, .str y] => if x.length + y.length ≤ sizeLine then some (.str (x ++ y)) else none
  | [.lst _ xs, .lst _ ys] => if xs.length + ys.length ≤ sizeLine then some (.lst true (xs ++ ys)) else none
  | [.tup xs, .tup ys] => if xs.length + ys.length ≤ sizeLine then some (.tup (xs ++ ys)) else none
  | _ => none
@[simp] def gSub : Sto → List D → Option D := fun _ ds => match ds with
  | [.int i, .int j] => some (.int (i - j))
  | _ => none
def gMul : Sto → List D → Option D := fun _ ds => match ds with
  | [.int i, .int j] => if sm i = true ∧ sm j = true then some (.int (i * j)) else none
  | [.lst _ [x], .int k] => if plain x = true ∧ 0 ≤ k ∧ k ≤ 1000 then some (.lst true (List.replicate k.toNat x)) else none
  | [.tup xs, .int k] => if plains xs = true ∧ xs ≠ [] ∧ 2 ≤ k ∧ k ≤ 1000 ∧ xs.length ≤ 1000 then some (.tup (List.replicate k.toNat xs).flatten) else none
  | _ => none
def gDiv : Sto → List D → Option D := fun _ ds => match ds with
  | [.int i, .int j] => if 0 < j ∧ sm j = true then some (.int (i / j)) else none
  | _ => none
@[simp] def gMod : Sto → List D → Option D := fun _ ds => match ds with
  | [.int i, .int j] => if 0 < j then some (.int (i % j)) else none
  | _ => none
def gPow : Sto → List D → Option D := fun _ ds => match ds with
  | [.int i, .int j] => if 0 ≤ j ∧ j ≤ 1000 ∧ sm i = true then some (.int (i ^ j.toNat)) else none
  | _ => none
@[simp] def gNeg : Sto → List D → Option D := fun _ ds => match ds with
  | [.int i] => some (.int (-i))
  | _ => none
section
variable {K : PySem.W.Frag} {mg : Str → Option Value} {X : Cx}
theorem fin_int {H : Hp} {ρ : List Addr} {Q : VK} {a f : Cnt} {k : Int} (q : ∀ v H' a' f', Same H H' → Rep K mg H' ρ (.int k) v a' f' → Out a f H a' f' → Q v H') : Q (.int k) H := q _ H c0 c0 (fun _ _ h => h) (.int (fun _ => rfl) (fun _ => rfl)) (.zero (fun _ => rfl) (fun _ => rfl))
theorem fin_bl {H : Hp} {ρ : List Addr} {Q : VK} {a f : Cnt} {k : Bool} (q : ∀ v H' a' f', Same H H' → Rep K mg H' ρ (.bl k) v a' f' → Out a f H a' f' → Q v H') : Q (.bl k) H := q _ H c0 c0 (fun _ _ h => h) (.bl (fun _ => rfl) (fun _ => rfl)) (.zero (fun _ => rfl) (fun _ => rfl))
theorem fin_str {H : Hp} {ρ : List Addr} {Q : VK} {a f : Cnt} {k : Str} (q : ∀ v H' a' f', Same H H' → Rep K mg H' ρ (.str k) v a' f' → Out a f H a' f' → Q v H') : Q (.str k) H := q _ H c0 c0 (fun _ _ h => h) (.str (fun _ => rfl) (fun _ => rfl)) (.zero (fun _ => rfl) (fun _ => rfl))
def rAddZ (K : PySem.W.Frag) : R2 := fun x y H Q => ((rI0 fun i j => .int (i + j)) x y H Q ∨ (∃ i j, x = .str i ∧ y = .str j ∧ i.length + j.length ≤ sizeLine ∧ Q (.str (i ++ j)) H)) ∨ (rCat x y H Q ∨ rCatA K x y H Q)
theorem o_add : OpR X (binaryOp .Add) (rAddZ X.K) := (op_add.or op_add_str).or (op_cat.or op_catA)
theorem v_add : OpV K mg (r2 (rAddZ K)) gAdd := by
  intro ρ s H ds vs a f d w r h e Q q
  unfold Zm.gAdd at e
  split at e
  · cases e
    obtain ⟨v1, v2, _, _, _, _, rfl, r1, r2, _⟩ := r.inv2
    cases inv_int r1; cases inv_int r2
    exact ⟨_, _, rfl, .inl (.inl ⟨_, _, rfl, rfl, fin_int q⟩)⟩
  · split at e
    · rename_i z
      cases e
      obtain ⟨v1, v2, _, _, _, _, rfl, r1, r2, _⟩ := r.inv2
      cases inv_str r1; cases inv_str r2
      exact ⟨_, _, rfl, .inl (.inr ⟨_, _, rfl, rfl, z, fin_str q⟩)⟩
    · cases e
  · split at e
    · rename_i z
      cases e
      obtain ⟨v1, v2, a1, f1, a2, f2, rfl, r1, r2, eq⟩ := r.inv2
      obtain ⟨p1, vs1, b1, g1, rfl, h1, t1, l1⟩ := inv_lst r1
      obtain ⟨p2, vs2, b2, g2, rfl, h2, t2, l2⟩ := inv_lst r2
      refine ⟨_, _, rfl, .inr (.inl ⟨p1, p2, vs1, vs2, rfl, rfl, h1, h2, by rw [← t1.length, ← t2.length]; exact z, fun p hp => ?_⟩)⟩
      have le : ∀ x, (fun x => b1 x + b2 x) x ≤ a x ∧ (fun x => g1 x + g2 x) x ≤ f x := fun x => by have := eq x; have := l1 x; have := l2 x; dsimp only; omega
      obtain ⟨n1, n2⟩ := new_lst w hp (t1.append t2) (h.le le)
      exact q _ _ _ _ (same_upd hp) n1 (n2.le le)
    · cases e
  · split at e
    · rename_i z
      cases e
      obtain ⟨v1, v2, a1, f1, a2, f2, rfl, r1, r2, eq⟩ := r.inv2
      obtain ⟨p1, vs1, rfl, h1, t1⟩ := inv_tup r1
      obtain ⟨p2, vs2, rfl, h2, t2⟩ := inv_tup r2
      have le : ∀ x, (fun x => a1 x + a2 x) x ≤ a x ∧ (fun x => f1 x + f2 x) x ≤ f x := fun x => by have := eq x; dsimp only; omega
      have t12 := t1.append t2
      refine ⟨_, _, rfl, .inr (.inr ⟨p1, p2, vs1, vs2, rfl, rfl, SqT.of h1, SqT.of h2, by rw [← t1.length, ← t2.length]; exact z, fun e1 => ?_, fun e1 e2 => ?_, fun e1 e2 p hp => ?_⟩)⟩
      · subst e1
        rw [List.nil_append] at t12
        exact q _ H _ _ (fun _ _ h => h) (.tup h2 t12) ((Out.refl (h.le le)).le le)
      · subst e2
        rw [List.append_nil] at t12
        exact q _ H _ _ (fun _ _ h => h) (.tup h1 t12) ((Out.refl (h.le le)).le le)
      · exact q _ _ _ _ (same_upd hp) (new_tup hp t12) ((Out.refl (h.le le)).le le)
    · cases e
  · cases e
theorem v_sub : OpV K mg (r2 (rI0 fun i j => .int (i - j))) gSub := by
  intro ρ s H ds vs a f d w r h e Q q
  unfold Zm.gSub at e
  split at e
  · cases e
    obtain ⟨v1, v2, _, _, _, _, rfl, r1, r2, _⟩ := r.inv2
    cases inv_int r1; cases inv_int r2
    exact ⟨_, _, rfl, _, _, rfl, rfl, fin_int q⟩
  · cases e
def rMulZ (K : PySem.W.Frag) : R2 := fun x y H Q => ((L2.rI CMulW fun i j => .int (i * j)) x y H Q ∨ rRep x y H Q) ∨ rRepT K x y H Q
theorem o_mul : OpR X (binaryOp .Mult) (rMulZ X.K) := (op_mulW.or op_rep).or op_repT
theorem reps_rep {H : Hp} {ρ : List Addr} {xs : List D} {vs : List V} (t : Reps K mg H ρ xs vs c0 c0) : ∀ n : Nat, Reps K mg H ρ (List.replicate n xs).flatten (List.replicate n vs).flatten c0 c0
  | 0 => .nil (fun _ => rfl) (fun _ => rfl)
  | n + 1 => by
    rw [List.replicate_succ, List.flatten_cons, List.replicate_succ, List.flatten_cons]
    exact (t.append (reps_rep t n)).cong (fun _ => rfl) (fun _ => rfl)
theorem flat_one {α : Type} (x : α) : ∀ n : Nat, (List.replicate n [x]).flatten = List.replicate n x
  | 0 => rfl
  | n + 1 => by rw [List.replicate_succ, List.flatten_cons, flat_one x n]; rfl
theorem v_mul : OpV K mg (r2 (rMulZ K)) gMul := by
  intro ρ s H ds vs a f d w r h e Q q
  unfold Zm.gMul at e
  split at e
  · split at e
    · rename_i z
      cases e
      obtain ⟨v1, v2, _, _, _, _, rfl, r1, r2, _⟩ := r.inv2
      cases inv_int r1; cases inv_int r2
      exact ⟨_, _, rfl, .inl (.inl ⟨_, _, rfl, rfl, by have := sm_log z.1; have := sm_log z.2; unfold CMulW; omega, fin_int q⟩)⟩
    · cases e
  · split at e
    · rename_i o x k z
      cases e
      obtain ⟨v1, v2, a1, f1, a2, f2, rfl, r1, r2, eq⟩ := r.inv2
      cases inv_int r2
      obtain ⟨p1, vs1, b1, g1, rfl, h1, t1, l1⟩ := inv_lst r1
      obtain ⟨vx, rfl, rx⟩ := t1.inv1
      have zz := rx.plain z.1
      have t0 : Reps K mg H ρ [x] [vx] c0 c0 := t1.cong (fun p => (zz p).1.symm) (fun p => (zz p).2.symm)
      have tn := reps_rep t0 k.toNat
      rw [flat_one, flat_one] at tn
      refine ⟨_, _, rfl, .inl (.inr ⟨p1, k, [vx], rfl, rfl, h1, by omega, by omega, ?_, fun p hp => ?_⟩)⟩
      · show 1 * k.toNat ≤ sizeLine
        have : (1000 : Nat) ≤ sizeLine := by decide
        omega
      · rw [flat_one]
        obtain ⟨n1, n2⟩ := new_lst w hp tn (fun x => ⟨Nat.zero_le _, fun z => no0 z⟩)
        exact q _ _ _ _ (same_upd hp) n1 (n2.le fun x => ⟨Nat.zero_le _, Nat.zero_le _⟩)
    · cases e
  · split at e
    · rename_i xs k z
      cases e
      obtain ⟨v1, v2, a1, f1, a2, f2, rfl, r1, r2, eq⟩ := r.inv2
      cases inv_int r2
      obtain ⟨p1, vs1, rfl, h1, t1⟩ := inv_tup r1
      have zz := t1.plain z.1
      have t0 : Reps K mg H ρ xs vs1 c0 c0 := t1.cong (fun p => (zz p).1.symm) (fun p => (zz p).2.symm)
      refine ⟨_, _, rfl, .inr ⟨p1, k, vs1, rfl, rfl, SqT.of h1, ?_, z.2.2.1, z.2.2.2.1, by rw [← t1.length]; exact z.2.2.2.2, fun p hp => ?_⟩⟩
      · intro e
        subst e
        have := t1.length
        exact z.2.1 (List.eq_nil_of_length_eq_zero this)
      · exact q _ _ _ _ (same_upd hp) (new_tup hp (reps_rep t0 k.toNat)) (.zero (fun _ => rfl) (fun _ => rfl))
    · cases e
  · cases e
theorem v_div : OpV K mg (r2 (L2.rI CDivW fun i j => .int (i / j))) gDiv := by
  intro ρ s H ds vs a f d w r h e Q q
  unfold Zm.gDiv at e
  split at e
  · split at e
    · rename_i z
      cases e
      obtain ⟨v1, v2, _, _, _, _, rfl, r1, r2, _⟩ := r.inv2
      cases inv_int r1; cases inv_int r2
      exact ⟨_, _, rfl, _, _, rfl, rfl, ⟨z.1, by have := sm_log z.2; omega⟩, fin_int q⟩
    · cases e
  · cases e
theorem v_mod : OpV K mg (r2 (L2.rI (fun _ j => 0 < j) fun i j => .int (i % j))) gMod := by
  intro ρ s H ds vs a f d w r h e Q q
  unfold Zm.gMod at e
  split at e
  · split at e
    · rename_i z
      cases e
      obtain ⟨v1, v2, _, _, _, _, rfl, r1, r2, _⟩ := r.inv2
      cases inv_int r1; cases inv_int r2
      exact ⟨_, _, rfl, _, _, rfl, rfl, z, fin_int q⟩
    · cases e
  · cases e
def CPowZ (i j : Int) : Prop := 0 ≤ j ∧ j ≤ 1000 ∧ sm i = true
theorem o_pow : OpR X (binaryOp .Pow) (L2.rI CPowZ fun i j => .int (i ^ j.toNat)) := opI fun i j _ _ _ _ _ hc q => by
  obtain ⟨h1, h2, h3⟩ := hc
  refine pow_int h1 ?_ q
  have b : Builtin.Int.intBits i ≤ 1900 := by
    have := sm_log h3
    unfold Builtin.Int.intBits
    split <;> omega
  have h4 : (Builtin.Int.intBits i : Int) ≤ 1900 := by omega
  have h5 : (Builtin.Int.intBits i : Int) * j ≤ 1900 * 1000 := Int.le_trans (Int.mul_le_mul_of_nonneg_right h4 h1) (Int.mul_le_mul_of_nonneg_left h2 (by omega))
  omega
theorem v_pow : OpV K mg (r2 (L2.rI CPowZ fun i j => .int (i ^ j.toNat))) gPow := by
  intro ρ s H ds vs a f d w r h e Q q
  unfold Zm.gPow at e
  split at e
  · split at e
    · rename_i z
      cases e
      obtain ⟨v1, v2, _, _, _, _, rfl, r1, r2, _⟩ := r.inv2
      cases inv_int r1; cases inv_int r2
      exact ⟨_, _, rfl, _, _, rfl, rfl, z, fin_int q⟩
    · cases e
  · cases e
theorem v_neg : OpV K mg (r1 (rU fun i => .int (-i))) gNeg := by
  intro ρ s H ds vs a f d w r h e Q q
  unfold Zm.gNeg at e
  split at e
  · cases e
    obtain ⟨v1, rfl, r1⟩ := r.inv1
    cases inv_int r1
    exact ⟨_, rfl, _, rfl, fin_int q⟩
  · cases e
/-! ### comparisons -/
@[simp] def gCmpI (p : Int → Int → Bool) : Sto → List D → Option D := fun _ ds => match ds with
  | [.int i, .int j] => some (.bl (p i j))
  | _ => none
@[simp] def gLt := gCmpI fun i j => decide (i < j)
@[simp] def gLe := gCmpI fun i j => decide (i ≤ j)
@[simp] def gGt := gCmpI fun i j => decide (j < i)
@[simp] def gGe := gCmpI fun i j => decide (j ≤ i)
theorem v_cmpI {p : Int → Int → Bool} : OpV K mg (r2 (rI0 fun i j => .bl (p i j))) (gCmpI p) := by
  intro ρ s H ds vs a f d w r h e Q q
  unfold Zm.gCmpI at e
  split at e
  · cases e
    obtain ⟨v1, v2, _, _, _, _, rfl, r1, r2, _⟩ := r.inv2
    cases inv_int r1; cases inv_int r2
    exact ⟨_, _, rfl, _, _, rfl, rfl, fin_bl q⟩
  · cases e
def shapedD (d : D) : Option PyData := match pd d with
  | some x => if SeqAt.shaped x = true then some x else none
  | none => none
theorem shapedD_eq {d : D} {x : PyData} (h : shapedD d = some x) : pd d = some x ∧ SeqAt.shaped x = true := by
  unfold shapedD at h
  split at h
  · rename_i y e
    split at h
    · rename_i z; cases h; exact ⟨e, z⟩
    · cases h
  · cases h
def gEq : Sto → List D → Option D := fun _ ds => match ds with
  | [x, y] => (match shapedD x, shapedD y with
    | some a, some b => some (.bl (PyData.eqv a b))
    | _, _ => none)
  | _ => none
def gNe : Sto → List D → Option D := fun _ ds => match ds with
  | [x, y] => (match shapedD x, shapedD y with
    | some a, some b => some (.bl (!PyData.eqv a b))
    | _, _ => none)
  | _ => none
theorem v_eq : OpV K mg (r2 (rEqD K)) gEq := by
  intro ρ s H ds vs a f d w r h e Q q
  unfold Zm.gEq at e
  split at e
  · split at e
    · rename_i x y e1 e2
      cases e
      obtain ⟨v1, v2, _, _, _, _, rfl, r1, r2, _⟩ := r.inv2
      obtain ⟨p1, s1⟩ := shapedD_eq e1
      obtain ⟨p2, s2⟩ := shapedD_eq e2
      exact ⟨_, _, rfl, _, _, r1.dp p1, r2.dp p2, s1, s2, fin_bl q⟩
    · cases e
  · cases e
theorem v_ne : OpV K mg (r2 (rNeD K)) gNe := by
  intro ρ s H ds vs a f d w r h e Q q
  unfold Zm.gNe at e
  split at e
  · split at e
    · rename_i x y e1 e2
      cases e
      obtain ⟨v1, v2, _, _, _, _, rfl, r1, r2, _⟩ := r.inv2
      obtain ⟨p1, s1⟩ := shapedD_eq e1
      obtain ⟨p2, s2⟩ := shapedD_eq e2
      exact ⟨_, _, rfl, _, _, r1.dp p1, r2.dp p2, s1, s2, fin_bl q⟩
    · cases e
  · cases e
@[simp] def isNon : D → Bool
  | .non => true
  | _ => false
@[simp] def gIsN : Sto → List D → Option D := fun _ ds => match ds with
  | [x, .non] => some (.bl (isNon x))
  | _ => none
@[simp] def gNotN : Sto → List D → Option D := fun _ ds => match ds with
  | [x, .non] => some (.bl (!isNon x))
  | _ => none
theorem isNon_eq {H : Hp} {ρ : List Addr} {d : D} {v : V} {a f : Cnt} (h : Rep K mg H ρ d v a f) : isNon d = decide (v = .non) := by
  cases h <;> simp [isNon]
theorem v_isN : OpV K mg (r2 fun x y H Q => y = .non ∧ Q (.bl (decide (x = .non))) H) gIsN := by
  intro ρ s H ds vs a f d w r h e Q q
  unfold Zm.gIsN at e
  split at e
  · cases e
    obtain ⟨v1, v2, _, _, _, _, rfl, r1, r2, _⟩ := r.inv2
    cases inv_non r2
    rw [isNon_eq r1] at q
    exact ⟨_, _, rfl, rfl, fin_bl q⟩
  · cases e
theorem v_notN : OpV K mg (r2 fun x y H Q => y = .non ∧ Q (.bl (!decide (x = .non))) H) gNotN := by
  intro ρ s H ds vs a f d w r h e Q q
  unfold Zm.gNotN at e
  split at e
  · cases e
    obtain ⟨v1, v2, _, _, _, _, rfl, r1, r2, _⟩ := r.inv2
    cases inv_non r2
    rw [isNon_eq r1] at q
    exact ⟨_, _, rfl, rfl, fin_bl q⟩
  · cases e
end
end Zm
set_option Elab.async false
set_option linter.all false
set_option maxRecDepth 100000
set_option autoImplicit false
/-! Z11: subscripts, slices, built-ins by machine. -/
namespace Zm
open PySem PySem.Spec PyProof.Rows L2
theorem Reps.drop {K : PySem.W.Frag} {mg : Str → Option Value} {H : Hp} {ρ : List Addr} : ∀ {ds : List D} {vs : List V} {a f : Cnt} (n : Nat), Reps K mg H ρ ds vs a f → ∃ a' f', Reps K mg H ρ (ds.drop n) (vs.drop n) a' f' ∧ ∀ x, a' x ≤ a x ∧ f' x ≤ f x
  | _, _, a, f, 0, h => ⟨a, f, by simpa using h, fun _ => ⟨Nat.le_refl _, Nat.le_refl _⟩⟩
  | _, _, a, f, n + 1, .nil h1 h2 => ⟨a, f, by simpa using Reps.nil h1 h2, fun _ => ⟨Nat.le_refl _, Nat.le_refl _⟩⟩
  | _, _, a, f, n + 1, .cons h t e1 e2 => by
    obtain ⟨a', f', r, q⟩ := Reps.drop n t
    exact ⟨a', f', by simpa using r, fun x => by have := q x; rw [e1, e2]; omega⟩
theorem Reps.take {K : PySem.W.Frag} {mg : Str → Option Value} {H : Hp} {ρ : List Addr} : ∀ {ds : List D} {vs : List V} {a f : Cnt} (n : Nat), Reps K mg H ρ ds vs a f → ∃ a' f', Reps K mg H ρ (ds.take n) (vs.take n) a' f' ∧ ∀ x, a' x ≤ a x ∧ f' x ≤ f x
  | _, _, a, f, 0, h => ⟨c0, c0, by rw [List.take_zero, List.take_zero]; exact Reps.nil (fun _ => rfl) (fun _ => rfl), fun _ => ⟨Nat.zero_le _, Nat.zero_le _⟩⟩
  | _, _, a, f, n + 1, .nil h1 h2 => ⟨a, f, by simpa using Reps.nil h1 h2, fun _ => ⟨Nat.le_refl _, Nat.le_refl _⟩⟩
  | _, _, a, f, n + 1, .cons h t e1 e2 => by
    obtain ⟨a', f', r, q⟩ := Reps.take n t
    refine ⟨_, _, by simpa using Reps.cons h r (fun _ => rfl) (fun _ => rfl), fun x => ?_⟩
    have := q x
    rw [e1, e2]
    omega
theorem Reps.atI {K : PySem.W.Frag} {mg : Str → Option Value} {H : Hp} {ρ : List Addr} {ds : List D} {vs : List V} {a f : Cnt} {i : Int} {d : D} (h : Reps K mg H ρ ds vs a f) (e : L2.atI ds i = some d) : ∃ v a' f', L2.atI vs i = some v ∧ Rep K mg H ρ d v a' f' ∧ ∀ x, a' x ≤ a x ∧ f' x ≤ f x := by
  unfold L2.atI at e ⊢
  rw [Option.bind_eq_some_iff] at e
  obtain ⟨j, e1, e2⟩ := e
  obtain ⟨v, a', f', q1, q2, q3⟩ := h.at e2
  exact ⟨v, a', f', by rw [← h.length, e1]; exact q1, q2, q3⟩
def gIx : Sto → List D → Option D := fun s ds => match ds with
  | [.lst _ xs, .int i] => L2.atI xs i
  | [.tup xs, .int i] => L2.atI xs i
  | [.ro ns, .int i] => (L2.atI ns i).map .int
  | [.box n, .int i] => (s[n]?).bind fun xs => L2.atI xs i
  | [.str z, .int i] => if z.length ≤ sizeLine then (L2.atI z.cps.toList i).map fun c => .str ⟨#[c]⟩ else none
  | _ => none
theorem atI_map {α β : Type} (g : α → β) (xs : List α) (i : Int) : L2.atI (xs.map g) i = (L2.atI xs i).map g := by
  unfold L2.atI
  rw [List.length_map]
  cases L2.ixN xs.length i with
  | none => rfl
  | some j => simp
def cutD {α : Type} (xs : List α) (lo hi : Option Int) : List α := (xs.drop (HT.sIx xs.length 0 lo)).take (HT.sIx xs.length xs.length hi - HT.sIx xs.length 0 lo)
def gSlW (d : D) (lo hi : Option Int) : Option D := match d with
  | .lst _ xs => some (.lst true (cutD xs lo hi))
  | .tup xs => some (.tup (cutD xs lo hi))
  | .ro ns => some (.lst true ((cutD ns lo hi).map .int))
  | .str z => if z.length ≤ sizeLine then some (.str (cutS z lo hi)) else none
  | _ => none
def gSl10 : Sto → List D → Option D := fun _ ds => match ds with
  | [d, .int i] => gSlW d (some i) none
  | _ => none
def gSl01 : Sto → List D → Option D := fun _ ds => match ds with
  | [d, .int j] => gSlW d none (some j)
  | _ => none
def rSlZ (K : PySem.W.Frag) : V → Option Int → Option Int → Hp → VK → Prop := fun x lo hi H Q => rSlL K x lo hi H Q ∨ rSlA K x lo hi H Q ∨ rSlS x lo hi H Q
theorem sl_any {X : Cx} : SlR X (rSlZ X.K) := by
  intro pins s σ H x v vl vu lo hi sl Q I rx hs pl pu h
  rcases h with h | h | h
  · exact sl_list pins s σ H x v vl vu lo hi sl Q I rx hs pl pu h
  · exact sl_tupA pins s σ H x v vl vu lo hi sl Q I rx hs pl pu h
  · exact sl_str pins s σ H x v vl vu lo hi sl Q I rx hs pl pu h
section
variable {K : PySem.W.Frag} {mg : Str → Option Value}
theorem v_ix : OpV K mg (r2 (rIx K)) gIx := by
  intro ρ s H ds vs a f d w r h e Q q
  unfold Zm.gIx at e
  split at e
  · obtain ⟨v1, v2, a1, f1, a2, f2, rfl, r1, r2, eq⟩ := r.inv2
    cases inv_int r2
    obtain ⟨p1, vs1, b1, g1, rfl, h1, t1, l1⟩ := inv_lst r1
    obtain ⟨v, a', f', e1, rp, le⟩ := t1.atI e
    have le' : ∀ x, a' x ≤ a x ∧ f' x ≤ f x := fun x => by have := eq x; have := l1 x; have := le x; omega
    exact ⟨_, _, rfl, .inl ⟨p1, _, _, v, rfl, rfl, SqL.of h1, e1, q _ H _ _ (fun _ _ h => h) rp ((Out.refl (h.le le')).le le')⟩⟩
  · obtain ⟨v1, v2, a1, f1, a2, f2, rfl, r1, r2, eq⟩ := r.inv2
    cases inv_int r2
    obtain ⟨p1, vs1, rfl, h1, t1⟩ := inv_tup r1
    obtain ⟨v, a', f', e1, rp, le⟩ := t1.atI e
    have le' : ∀ x, a' x ≤ a x ∧ f' x ≤ f x := fun x => by have := eq x; have := le x; omega
    exact ⟨_, _, rfl, .inr (.inl ⟨p1, _, _, v, rfl, rfl, SqT.of h1, e1, q _ H _ _ (fun _ _ h => h) rp ((Out.refl (h.le le')).le le')⟩)⟩
  · obtain ⟨v1, v2, a1, f1, a2, f2, rfl, r1, r2, eq⟩ := r.inv2
    cases inv_int r2
    cases r1 with
    | ro hq _ _ =>
      rw [Option.map_eq_some_iff] at e
      obtain ⟨n, e1, rfl⟩ := e
      exact ⟨_, _, rfl, .inl ⟨_, _, _, _, rfl, rfl, hq.L, by rw [atI_map, e1]; rfl, fin_int q⟩⟩
  · obtain ⟨v1, v2, a1, f1, a2, f2, rfl, r1, r2, eq⟩ := r.inv2
    cases inv_int r2
    cases r1 with
    | box hn _ _ =>
      rw [Option.bind_eq_some_iff] at e
      obtain ⟨xs, e1, e2⟩ := e
      obtain ⟨pl, vs1, b1, g1, hp, t1⟩ := w.at_ _ _ _ hn e1
      obtain ⟨v, a', f', e3, rp, le⟩ := t1.atI e2
      have z := t1.plain pl
      exact ⟨_, _, rfl, .inl ⟨_, _, _, v, rfl, rfl, SqL.of hp, e3, q _ H _ _ (fun _ _ h => h) rp (.zero (fun x => by have := z x; have := le x; omega) (fun x => by have := z x; have := le x; omega))⟩⟩
  · split at e
    · rename_i z
      obtain ⟨v1, v2, a1, f1, a2, f2, rfl, r1, r2, eq⟩ := r.inv2
      cases inv_int r2; cases inv_str r1
      rw [Option.map_eq_some_iff] at e
      obtain ⟨c, e1, rfl⟩ := e
      exact ⟨_, _, rfl, .inr (.inr ⟨_, _, c, rfl, rfl, z, e1, fin_str q⟩)⟩
    · cases e
  · cases e
theorem sl_core {ρ : List Addr} {s : Sto} {H : Hp} {d0 d : D} {v : V} {a f : Cnt} {lo hi : Option Int} (w : Wd K mg ρ s H) (r : Rep K mg H ρ d0 v a f) (h : Sp1 a f) (e : gSlW d0 lo hi = some d) (Q : VK) (q : ∀ v H' a' f', Same H H' → Rep K mg H' ρ d v a' f' → Out a f H a' f' → Q v H') : rSlZ K v lo hi H Q := by
  cases d0 <;> simp only [gSlW, reduceCtorEq, Option.some.injEq] at e
  · split at e
    · rename_i z
      cases e
      cases inv_str r
      exact .inr (.inr ⟨_, rfl, z, fin_str q⟩)
    · cases e
  · subst e
    obtain ⟨p1, vs1, rfl, h1, t1⟩ := inv_tup r
    refine .inr (.inl ⟨p1, vs1, rfl, SqT.of h1, fun c => ?_, fun c p hp => ?_⟩)
    · have hx : ∀ {α : Type} (xs : List α), xs.length = vs1.length → cutD xs lo hi = xs := fun xs hl => by
        unfold cutD
        rw [hl, c.1, c.2]
        simp [← hl]
      rw [hx _ t1.length] at q
      exact q _ H _ _ (fun _ _ h => h) (.tup h1 t1) (.refl h)
    · unfold cutD at q
      obtain ⟨a1, f1, t2, le1⟩ := t1.drop (HT.sIx vs1.length 0 lo)
      obtain ⟨a2, f2, t3, le2⟩ := t2.take (HT.sIx vs1.length vs1.length hi - HT.sIx vs1.length 0 lo)
      rw [t1.length] at q
      have le : ∀ x, a2 x ≤ a x ∧ f2 x ≤ f x := fun x => by have := le1 x; have := le2 x; omega
      exact q _ _ _ _ (same_upd hp) (new_tup hp t3) ((Out.refl (h.le le)).le le)
  · subst e
    obtain ⟨p1, vs1, b1, g1, rfl, h1, t1, l1⟩ := inv_lst r
    refine .inl ⟨p1, vs1, rfl, SqL.of h1, fun p hp => ?_⟩
    unfold cutD at q
    obtain ⟨a1, f1, t2, le1⟩ := t1.drop (HT.sIx vs1.length 0 lo)
    obtain ⟨a2, f2, t3, le2⟩ := t2.take (HT.sIx vs1.length vs1.length hi - HT.sIx vs1.length 0 lo)
    rw [t1.length] at q
    have le : ∀ x, a2 x ≤ a x ∧ f2 x ≤ f x := fun x => by have := le1 x; have := le2 x; have := l1 x; omega
    obtain ⟨n1, n2⟩ := new_lst w hp t3 (h.le le)
    exact q _ _ _ _ (same_upd hp) n1 (n2.le le)
  · subst e
    cases r with
    | ro hq _ _ =>
      refine .inl ⟨_, _, rfl, hq.L, fun p hp => ?_⟩
      have e2 : ∀ ns : List Int, cutV (ns.map V.int) lo hi = (cutD ns lo hi).map V.int := fun ns => by
        unfold cutV cutD
        rw [List.length_map, List.map_take, List.map_drop]
      rw [e2]
      obtain ⟨n1, n2⟩ := new_lst w hp (reps_ints _) (fun x => ⟨Nat.zero_le _, fun z => no0 z⟩)
      exact q _ _ _ _ (same_upd hp) n1 (n2.le fun x => ⟨Nat.zero_le _, Nat.zero_le _⟩)
end
section
variable {X : Cx} {W : WX} {e : Expr} {m ma mb mc : M} {ms : List M} {pos p2 : Pos} {a b c : Expr}
theorem s_ix (ha : SE X W a ma) (hb : SE X W b mb) (hs : PlainIx b := by intro _ _; rfl) : SE X W (.Subscript a b pos) (mOp gIx [ma, mb]) :=
  PE.imp (pe_ix ix_seq ha hb hs) fun σ H Q h => rE_mono (rA_2 (rA_op v_ix h)) fun v H1 q => rE_mono q fun u H2 ⟨x, y, e, z⟩ => by cases e; exact z
theorem v_sl10 {K : PySem.W.Frag} {mg : Str → Option Value} : OpV K mg (fun vs H Q => ∃ x i, vs = [x, .int i] ∧ rSlZ K x (some i) none H Q) gSl10 := by
  intro ρ s H ds vs a f d w r h e Q q
  unfold Zm.gSl10 at e
  split at e
  · obtain ⟨v1, v2, a1, f1, a2, f2, rfl, r1, r2, eq⟩ := r.inv2
    cases inv_int r2
    have le : ∀ x, a1 x ≤ a x ∧ f1 x ≤ f x := fun x => by have := eq x; omega
    exact ⟨_, _, rfl, sl_core w r1 (h.le le) e Q fun v H' a' f' s1 r1 o => q v H' a' f' s1 r1 (o.le le)⟩
  · cases e
theorem v_sl01 {K : PySem.W.Frag} {mg : Str → Option Value} : OpV K mg (fun vs H Q => ∃ x i, vs = [x, .int i] ∧ rSlZ K x none (some i) H Q) gSl01 := by
  intro ρ s H ds vs a f d w r h e Q q
  unfold Zm.gSl01 at e
  split at e
  · obtain ⟨v1, v2, a1, f1, a2, f2, rfl, r1, r2, eq⟩ := r.inv2
    cases inv_int r2
    have le : ∀ x, a1 x ≤ a x ∧ f1 x ≤ f x := fun x => by have := eq x; omega
    exact ⟨_, _, rfl, sl_core w r1 (h.le le) e Q fun v H' a' f' s1 r1 o => q v H' a' f' s1 r1 (o.le le)⟩
  · cases e
theorem s_sl10 (ha : SE X W a ma) (hb : SE X W b mb) : SE X W (.Subscript a (.Slice (some b) none none p2) pos) (mOp gSl10 [ma, mb]) :=
  PE.imp (pe_slice sl_any ha (po_some hb) po_none) fun σ H Q h => rE_mono (rA_2 (rA_op v_sl10 h)) fun v H1 q => rE_mono q fun u H2 ⟨x, i, e, z⟩ => by cases e; exact ⟨_, rfl, z⟩
theorem s_sl01 (ha : SE X W a ma) (hb : SE X W b mb) : SE X W (.Subscript a (.Slice none (some b) none p2) pos) (mOp gSl01 [ma, mb]) :=
  PE.imp (pe_slice sl_any ha po_none (po_some hb)) fun σ H Q h => rE_mono (rA_2 (rA_op v_sl01 h)) fun v H1 q => rE_mono q fun u H2 ⟨x, i, e, z⟩ => by cases e; exact ⟨_, rfl, z⟩
@[simp] def mI (m : M) : M := fun σ s => (m σ s).bind fun d s' => match d with
  | .int i => .ok (.int i) s'
  | _ => .bad
end
/-! ### built-ins -/
@[simp] def gLen : Sto → List D → Option D := fun s ds => match ds with
  | [.lst _ xs] => some (.int (xs.length : Nat))
  | [.tup xs] => some (.int (xs.length : Nat))
  | [.ro ns] => some (.int (ns.length : Nat))
  | [.box n] => (s[n]?).map fun xs => .int (xs.length : Nat)
  | [.str z] => if z.length ≤ sizeLine then some (.int (z.length : Nat)) else none
  | _ => none
@[simp] def gAbs : Sto → List D → Option D := fun _ ds => match ds with
  | [.int i] => some (.int (if i < 0 then -i else i))
  | _ => none
@[simp] def gMax2 : Sto → List D → Option D := fun _ ds => match ds with
  | [.int i, .int j] => some (.int (if j > i then j else i))
  | _ => none
@[simp] def gMin2 : Sto → List D → Option D := fun _ ds => match ds with
  | [.int i, .int j] => some (.int (if j < i then j else i))
  | _ => none
def toBls : List D → Option (List Bool)
  | [] => some []
  | .bl i :: ds => (toBls ds).map (i :: ·)
  | _ => none
@[simp] theorem toBls_map (ns : List Bool) : toBls (ns.map D.bl) = some ns := by
  induction ns with
  | nil => rfl
  | cons n ns ih => simp [toBls, ih]
def gAll : Sto → List D → Option D := fun _ ds => match ds with
  | [.lst _ xs] => (toBls xs).map fun bs => .bl (bs.all id)
  | _ => none
def gTuple : Sto → List D → Option D := fun s ds => match ds with
  | [.lst _ xs] => some (.tup xs)
  | [.tup xs] => some (.tup xs)
  | [.ro ns] => some (.tup (ns.map .int))
  | _ => none
@[simp] def tyOf : D → Option String
  | .non => some "NoneType" | .bl _ => some "bool" | .int _ => some "int" | .str _ => some "str" | .tup _ => some "tuple" | .lst _ _ => some "list" | .ro _ => some "list" | .box _ => some "list" | .dic _ false _ _ => some "dict"
  | _ => none
@[simp] def isiB (a b : String) : Bool := a == b || (a == "bool" && b == "int")
@[simp] def knownT (b : String) : Bool := ["int", "bool", "tuple", "list", "str", "dict"].contains b
theorem kit_known {a b : String} {d : D} (h : tyOf d = some a) (hb : knownT b = true) : kitB a b = some (isiB a b) := by
  have hb : b = "int" ∨ b = "bool" ∨ b = "tuple" ∨ b = "list" ∨ b = "str" ∨ b = "dict" := by simpa [knownT] using hb
  have ha : a = "NoneType" ∨ a = "bool" ∨ a = "int" ∨ a = "str" ∨ a = "tuple" ∨ a = "list" ∨ a = "dict" := by
    unfold tyOf at h
    split at h <;> first | cases h; simp | cases h
  rcases ha with rfl | rfl | rfl | rfl | rfl | rfl | rfl <;> rcases hb with rfl | rfl | rfl | rfl | rfl | rfl <;> decide +kernel
@[simp] def gIsi : Sto → List D → Option D := fun _ ds => match ds with
  | [x, .ty b] => (tyOf x).bind fun a => if knownT b = true then some (.bl (isiB a b)) else none
  | _ => none
@[simp] def gIsi2 : Sto → List D → Option D := fun _ ds => match ds with
  | [x, .tup [.ty b, .ty c]] => (tyOf x).bind fun a => if knownT b = true ∧ knownT c = true then some (.bl (isiB a b || isiB a c)) else none
  | _ => none
def gRepr : Sto → List D → Option D := fun _ ds => match ds with
  | [d] => (pd d).bind fun x => if x.showable = true ∧ x.hasDict = false ∧ x.depth ≤ 60 ∧ x.shown.length ≤ sizeLine then some (.str x.shown) else none
  | _ => none
def gStr : Sto → List D → Option D := fun _ ds => match ds with
  | [.int i] => if sm i = true then some (.str (toString i)) else none
  | _ => none
section
variable {K : PySem.W.Frag} {mg : Str → Option Value} {X : Cx}
theorem v_len : OpV K mg (fun xs H Q => ∃ x n, xs = [x] ∧ LenV K x H n ∧ Q (.int n) H) gLen := by
  intro ρ s H ds vs a f d w r h e Q q
  unfold Zm.gLen at e
  split at e
  · cases e
    obtain ⟨v1, rfl, r1⟩ := r.inv1
    obtain ⟨p1, vs1, b1, g1, rfl, h1, t1, l1⟩ := inv_lst r1
    exact ⟨_, _, rfl, .inl ⟨_, SqL.of h1, t1.length⟩, fin_int q⟩
  · cases e
    obtain ⟨v1, rfl, r1⟩ := r.inv1
    obtain ⟨p1, vs1, rfl, h1, t1⟩ := inv_tup r1
    exact ⟨_, _, rfl, .inr ⟨_, SqT.of h1, t1.length⟩, fin_int q⟩
  · cases e
    obtain ⟨v1, rfl, r1⟩ := r.inv1
    cases r1 with
    | ro hq _ _ => exact ⟨_, _, rfl, .inl ⟨_, hq.L, by rw [List.length_map]⟩, fin_int q⟩
  · rw [Option.map_eq_some_iff] at e
    obtain ⟨xs, e1, rfl⟩ := e
    obtain ⟨v1, rfl, r1⟩ := r.inv1
    cases r1 with
    | box hn _ _ =>
      obtain ⟨pl, vs1, b1, g1, hp, t1⟩ := w.at_ _ _ _ hn e1
      exact ⟨_, _, rfl, .inl ⟨_, SqL.of hp, t1.length⟩, fin_int q⟩
  · split at e
    · rename_i z
      cases e
      obtain ⟨v1, rfl, r1⟩ := r.inv1
      cases inv_str r1
      exact ⟨_, _, rfl, ⟨z, rfl⟩, fin_int q⟩
    · cases e
  · cases e
theorem v_max2 : OpV K mg (fun xs H Q => ∃ i j, xs = [.int i, .int j] ∧ Q (.int (if j > i then j else i)) H) gMax2 := by
  intro ρ s H ds vs a f d w r h e Q q
  unfold Zm.gMax2 at e
  split at e
  · cases e
    obtain ⟨v1, v2, _, _, _, _, rfl, r1, r2, _⟩ := r.inv2
    cases inv_int r1; cases inv_int r2
    exact ⟨_, _, rfl, fin_int q⟩
  · cases e
theorem v_min2 : OpV K mg (fun xs H Q => ∃ i j, xs = [.int i, .int j] ∧ Q (.int (if j < i then j else i)) H) gMin2 := by
  intro ρ s H ds vs a f d w r h e Q q
  unfold Zm.gMin2 at e
  split at e
  · cases e
    obtain ⟨v1, v2, _, _, _, _, rfl, r1, r2, _⟩ := r.inv2
    cases inv_int r1; cases inv_int r2
    exact ⟨_, _, rfl, fin_int q⟩
  · cases e
theorem toBls_eq {K : PySem.W.Frag} {mg : Str → Option Value} {H : Hp} {ρ : List Addr} : ∀ {ds : List D} {bs : List Bool} {vs : List V} {a f : Cnt}, toBls ds = some bs → Reps K mg H ρ ds vs a f → vs = bs.map V.bl
  | [], _, _, _, _, h, r => by cases h; cases r; rfl
  | .bl b :: ds, _, _, _, _, h, .cons r t _ _ => by
    rw [toBls, Option.map_eq_some_iff] at h
    obtain ⟨r', e, rfl⟩ := h
    rw [inv_bl r, toBls_eq e t]; rfl
  | .non :: _, _, _, _, _, h, _ => by simp [toBls] at h
  | .int _ :: _, _, _, _, _, h, _ => by simp [toBls] at h
  | .str _ :: _, _, _, _, _, h, _ => by simp [toBls] at h
  | .tup _ :: _, _, _, _, _, h, _ => by simp [toBls] at h
  | .lst _ _ :: _, _, _, _, _, h, _ => by simp [toBls] at h
  | .dic _ _ _ _ :: _, _, _, _, _, h, _ => by simp [toBls] at h
  | .dil _ _ _ :: _, _, _, _, _, h, _ => by simp [toBls] at h
  | .box _ :: _, _, _, _, _, h, _ => by simp [toBls] at h
  | .fn _ :: _, _, _, _, _, h, _ => by simp [toBls] at h
  | .ty _ :: _, _, _, _, _, h, _ => by simp [toBls] at h
  | .exc _ _ :: _, _, _, _, _, h, _ => by simp [toBls] at h
  | .ro _ :: _, _, _, _, _, h, _ => by simp [toBls] at h
theorem v_all : OpV K mg (rAll K) gAll := by
  intro ρ s H ds vs a f d w r h e Q q
  unfold Zm.gAll at e
  split at e
  · rw [Option.map_eq_some_iff] at e
    obtain ⟨ns, e1, rfl⟩ := e
    obtain ⟨v1, rfl, r1⟩ := r.inv1
    obtain ⟨p1, vs1, b1, g1, rfl, h1, t1, l1⟩ := inv_lst r1
    rw [toBls_eq e1 t1] at h1
    exact ⟨p1, ns, rfl, SqL.of h1, fin_bl q⟩
  · cases e
theorem v_tuple : OpV K mg (fun xs H Q => ∃ p ys, xs = [.ref p] ∧ ((SqL K H p ys ∧ ∀ l, H l = none → Q (.ref l) (upd H l (.tup ys))) ∨ (SqT K H p ys ∧ Q (.ref p) H))) gTuple := by
  intro ρ s H ds vs a f d w r h e Q q
  unfold Zm.gTuple at e
  split at e
  · cases e
    obtain ⟨v1, rfl, r1⟩ := r.inv1
    obtain ⟨p1, vs1, b1, g1, rfl, h1, t1, l1⟩ := inv_lst r1
    exact ⟨p1, vs1, rfl, .inl ⟨SqL.of h1, fun p hp => q _ _ _ _ (same_upd hp) (new_tup hp t1) ((Out.refl (h.le l1)).le l1)⟩⟩
  · cases e
    obtain ⟨v1, rfl, r1⟩ := r.inv1
    obtain ⟨p1, vs1, rfl, h1, t1⟩ := inv_tup r1
    exact ⟨p1, vs1, rfl, .inr ⟨SqT.of h1, q _ H _ _ (fun _ _ h => h) (.tup h1 t1) (.refl h)⟩⟩
  · cases e
    obtain ⟨v1, rfl, r1⟩ := r.inv1
    cases r1 with
    | ro hq _ _ => exact ⟨_, _, rfl, .inl ⟨hq.L, fun p hp => q _ _ _ _ (same_upd hp) (new_tup hp (reps_ints _)) (.zero (fun _ => rfl) (fun _ => rfl))⟩⟩
  · cases e
theorem isi_ty {H : Hp} {ρ : List Addr} {s : Sto} {d : D} {v : V} {a f : Cnt} {n : String} (w : Wd K mg ρ s H) (e : tyOf d = some n) (r : Rep K mg H ρ d v a f) : TyX K H v (.type n) := by
  have dk : ∀ {o : Bool} {ks vs : List D} {v : V}, Rep K mg H ρ (.dic o false ks vs) v a f → TyX K H v (.type "dict") := fun h => by
    cases h with
    | dicO h _ _ _ _ _ =>
      obtain ⟨u, e, kvs, rfl, _⟩ := h
      exact .base (.dK e)
    | dicF h _ _ _ _ _ =>
      obtain ⟨u, e | ⟨o, e⟩, kvs, rfl, _⟩ := h
      · exact .base (.dK e)
      · exact .fDict e
  cases d
  case dic o t ks vs =>
    cases t with
    | true => simp [tyOf] at e
    | false => simp only [tyOf, Option.some.injEq] at e; subst e; exact dk r
  all_goals simp only [tyOf, Option.some.injEq, reduceCtorEq] at e
  all_goals subst e
  · cases r; exact .base .non
  · cases r; exact .base (.bl _)
  · cases r; exact .base (.int _)
  · cases r; exact .base (.str _)
  · obtain ⟨p1, vs1, rfl, h1, t1⟩ := inv_tup r; exact .base (.tup h1)
  · obtain ⟨p1, vs1, b1, g1, rfl, h1, t1, l1⟩ := inv_lst r; exact .base (.lst h1)
  · cases r with
    | box hn _ _ =>
      obtain ⟨l, hl⟩ := w.lst (List.mem_of_getElem? hn)
      exact .base (.lst hl)
  · cases r with
    | ro hq _ _ =>
      rcases hq with ⟨o, hq⟩ | ⟨o, its, n, h1, h2, _⟩
      · exact .base (.frz hq)
      · exact .kList h1 h2
theorem v_isi : OpV K mg (rIsi K) gIsi := by
  intro ρ s H ds vs a f d w r h e Q q
  unfold Zm.gIsi at e
  split at e
  · rw [Option.bind_eq_some_iff] at e
    obtain ⟨n, e1, e2⟩ := e
    split at e2
    · rename_i z
      cases e2
      obtain ⟨v1, v2, _, _, _, _, rfl, r1, r2, _⟩ := r.inv2
      cases r2 with
      | ty _ _ => exact ⟨_, _, _, _, _, rfl, .ty _, isi_ty w e1 r1, kit_ty (kit_known e1 z), fin_bl q⟩
    · cases e2
  · cases e
theorem v_isi2 : OpV K mg (rIsiT K) gIsi2 := by
  intro ρ s H ds vs a f d w r h e Q q
  unfold Zm.gIsi2 at e
  split at e
  · rw [Option.bind_eq_some_iff] at e
    obtain ⟨n, e1, e2⟩ := e
    split at e2
    · rename_i z
      cases e2
      obtain ⟨v1, v2, _, _, _, _, rfl, r1, r2, _⟩ := r.inv2
      obtain ⟨p1, vs1, rfl, h1, t1⟩ := inv_tup r2
      obtain ⟨u1, u2, _, _, _, _, rfl, q1, q2, _⟩ := t1.inv2
      cases q1; cases q2
      refine ⟨_, _, _, _, _, _, rfl, h1, .cons (.ty _) (.cons (.ty _) .nil), isi_ty w e1 r1, ?_, fin_bl q⟩
      refine kitAny_cons (kit_ty (kit_known e1 z.1)) (fun hb => ?_) (fun hb => by rw [hb]; rfl)
      rw [hb, Bool.false_or]
      exact kitAny_cons (kit_ty (kit_known e1 z.2)) (fun hb => by rw [hb]; exact kitAny_nil) (fun hb => hb)
    · cases e2
  · cases e
/-- repr of anything but dicts -/
def rReprZ (K : PySem.W.Frag) : List V → Hp → VK → Prop := fun xs H Q => ∃ x d, xs = [x] ∧ Dp K H x d ∧ d.showable = true ∧ d.hasDict = false ∧ d.depth ≤ 60 ∧ d.shown.length ≤ sizeLine ∧ Q (.str d.shown) H
theorem cr_repr (hu : X.A.units + 64 < cLine) (hg : X.A.guards = some []) : CallR X (.builtin "repr") (rReprZ X.K) := by
  intro pins s σ H xs us Q I r h
  obtain ⟨x, d, rfl, hd, h1, h2, h3, h4, q⟩ := h
  obtain ⟨u, rfl, ru⟩ := vals1 r
  obtain ⟨as, rd⟩ := Dp.reads I d x u hd ru
  cases rd with
  | none => exact PySem.P.repr_of_none ⟨.str _, H, I.tok _, ⟨_, rfl⟩, q⟩
  | bool b =>
    refine PySem.P.repr_of_bool ⟨.str _, H, I.tok _, ⟨_, rfl⟩, ?_⟩
    cases b <;> (simp only [PyData.shown] at q; exact q)
  | int i t =>
    have hz : i.natAbs.log2 < 1920 := by simpa [PyData.showable] using h1
    exact PySem.P.repr_of_int hz ⟨.str _, H, I.tok _, ⟨_, rfl⟩, by simpa only [PyData.shown] using q⟩
  | str z t => exact PySem.P.repr_of_str ⟨.str _, H, I.tok _, ⟨_, rfl⟩, by simpa only [PyData.shown] using q⟩ (by simpa only [PyData.shown] using h4)
  | list e1 e2 e3 e4 => exact repr_of_reads' (.list e1 e2 e3 e4) h1 (PyData.noDict_hsm h2) hg (by omega) (fun _ _ z => z) (fun h' u tk hk => ⟨.str _, H, I.kept hk, ⟨_, rfl⟩, q⟩) h4
  | tuple e1 e2 e3 e4 => exact repr_of_reads' (.tuple e1 e2 e3 e4) h1 (PyData.noDict_hsm h2) hg (by omega) (fun _ _ z => z) (fun h' u tk hk => ⟨.str _, H, I.kept hk, ⟨_, rfl⟩, q⟩) h4
  | dict _ _ _ _ _ => simp [PyData.hasDict] at h2
theorem v_repr : OpV K mg (rReprZ K) gRepr := by
  intro ρ s H ds vs a f d w r h e Q q
  unfold Zm.gRepr at e
  split at e
  · rw [Option.bind_eq_some_iff] at e
    obtain ⟨x, e1, e2⟩ := e
    split at e2
    · rename_i z
      cases e2
      obtain ⟨v1, rfl, r1⟩ := r.inv1
      exact ⟨_, x, rfl, r1.dp e1, z.1, z.2.1, z.2.2.1, z.2.2.2, fin_str q⟩
    · cases e2
  · cases e
end
end Zm
set_option Elab.async false
set_option linter.all false
set_option maxRecDepth 100000
set_option autoImplicit false
/-! Z12: the law's own call. -/
namespace Zm
open PySem PySem.Spec PyProof.Rows L2
section
variable {P : Program} {w : World} {K : PySem.W.Frag} {mg mb : Str → Option Value}
/-- from a heap in which at most the script is tracked -/
theorem call_from {k : Nat} {fa a : Addr} {fd : FuncData} {x : Str} {sp : Sp} {s₁ : Shared} {vs : List Value} {ns : List Int} {H : Hp}
    (kx : K.In s₁.heap) (nsm : s₁.heap.Ns mainGlobals mg) (nsb : s₁.heap.Ns builtinsNs mb)
    (bb : ∀ x : Str, x ≠ "__name__" → mb x = bootBuiltins x) (lim : s₁.heap.NoLimit) (gg : s₁.gens = #[])
    (at_a : s₁.heap.get? a = some { cls := .type "list", data := .seq vs.toArray })
    (hr : Room k callerA)
    (F : ∀ base : Heap, K.In base → base.Ns mainGlobals mg → FnG P w K mg base k fa fd [x] sp)
    (bnd : ∀ (s : Shared) (u : Value), BindsTo s fd ⟨[u], []⟩ [(x, u)])
    (fz : ∀ b o, H b = some o → b = a ∧ K.lookup a = none ∧ ∃ ob xs, o = .frz ob (.lst xs)) (hok : HOk P w H s₁.heap)
    (want : sp [.ref a] H (fun v _ => v = .bl true) fun _ _ _ => False) :
    codeAny (model P w) callerA (.call (.ref fa) ⟨[.ref a], []⟩)
      (fun r s' => r = .ok (.ret (.bool true)) ∧ OldK s₁.heap s'.heap ∧ s'.os = s₁.os ∧ AllBare s'.gens) s₁ := by
  have untracked : ∀ {b : Addr} {o : Obj} {es : Array DictEntry} {ep : Nat}, s₁.heap.get? b = some o → o.data = .dict es ep → H b = none := by
    intro b o es ep e d
    match q : H b with
    | none => rfl
    | some u =>
      obtain ⟨rfl, _⟩ := fz b u q
      rw [at_a] at e
      cases e
      exact nomatch d
  have up : ∀ {b : Addr} {m : Str → Option Value}, s₁.heap.Ns b m → (hidT s₁.heap H).Ns b m := by
    rintro b m ⟨o, es, ep, e, d, r⟩
    exact ⟨o, es, ep, hidT_get e (untracked e d), d, r⟩
  have kb : K.In (hidT s₁.heap H) := by
    intro b o e
    refine hidT_get (kx b o e) ?_
    match q : H b with
    | none => rfl
    | some u =>
      obtain ⟨rfl, hk, _⟩ := fz b u q
      rw [hk] at e; cases e
  obtain ⟨mc, l1, l2⟩ := lim
  have md : Mod K mg (hidT s₁.heap H) := ⟨kb, up nsm, ⟨mb, up nsb, bb⟩, mc, up l1, l2⟩
  have none_in : ∀ b : Addr, b ∉ frs ([] : List PySem.Env) := fun b z => by simp [frs] at z
  have ent : Env0 P w K mg (hidT s₁.heap H) callerA [] s₁ H :=
    ⟨rfl, md, fun b o e => of_hidT e, Nat.le_of_eq (hidT_size _ _), trivial, fun b hb => (none_in b hb).elim, hok, .of_eq gg⟩
  have run := (F _ kb (up nsm)).run callerA [] s₁ H ⟨[.ref a], []⟩ [.ref a] [.ref a] _ _ hr rfl ent (bnd s₁ (.ref a)) (.cons rfl .nil) want
  refine codeAny_mono run ?_
  intro r s' h
  match r, h with
  | .error e, h =>
    obtain ⟨_, _, _, _, _, _, _, _, _, _, _, _, z⟩ := h
    exact z.elim
  | .ok .next, h => exact h.elim
  | .ok .brk, h => exact h.elim
  | .ok .cont, h => exact h.elim
  | .ok (.ret u), h =>
    obtain ⟨v, H', os, bare, un, hok', rel, q⟩ := h
    cases (show v = .bl true from q)
    cases (show u = Value.bool true from rel)
    refine ⟨rfl, OldK.of_keep ?_, os, bare⟩
    intro b o e
    match q : H b with
    | none => exact un.keep b o e q (none_in b) (by simp)
    | some u =>
      obtain ⟨_, _, ob, xs, rfl⟩ := fz b u q
      have after := (hok' b _ (un.frzs b ob _ q)).1
      have ahead := (hok b _ q).1
      rw [e] at ahead
      cases ahead
      exact after
theorem law_callG {k : Nat} {fa a : Addr} {fd : FuncData} {x : Str} {sp : Sp} {s₁ : Shared} {vs : List Value} {ns : List Int}
    (kx : K.In s₁.heap) (nsm : s₁.heap.Ns mainGlobals mg) (nsb : s₁.heap.Ns builtinsNs mb)
    (bb : ∀ x : Str, x ≠ "__name__" → mb x = bootBuiltins x) (lim : s₁.heap.NoLimit) (gg : s₁.gens = #[])
    (at_a : s₁.heap.get? a = some { cls := .type "list", data := .seq vs.toArray }) (ia : IntsAre vs ns) (hl : ns.length ≤ sizeLine)
    (hr : Room k callerA)
    (F : ∀ base : Heap, K.In base → base.Ns mainGlobals mg → FnG P w K mg base k fa fd [x] sp)
    (bnd : ∀ (s : Shared) (u : Value), BindsTo s fd ⟨[u], []⟩ [(x, u)])
    (hsp : ∀ H : Hp, SqR K H a (ns.map V.int) → sp [.ref a] H (fun v _ => v = .bl true) fun _ _ _ => False) :
    codeAny (model P w) callerA (.call (.ref fa) ⟨[.ref a], []⟩)
      (fun r s' => r = .ok (.ret (.bool true)) ∧ OldK s₁.heap s'.heap ∧ s'.os = s₁.os ∧ AllBare s'.gens) s₁ := by
  have rv := vals_ints ia
  have ln := ia.length
  match hk : K.lookup a with
  | some o =>
    have e := kx a o hk
    rw [at_a] at e
    cases e
    refine call_from (ns := ns) (H := fun _ => none) kx nsm nsb bb lim gg at_a hr F bnd (fun b o z => nomatch z) (fun b o z => nomatch z) (hsp _ (.inr ⟨_, vs.toArray, _, hk, rfl, rfl, rfl, ?_, by simpa using rv⟩))
    rw [List.size_toArray, ln]
    exact hl
  | none =>
    let ob : Obj := { cls := .type "list", data := .seq vs.toArray }
    let H : Hp := fun b => if b = a then some (.frz ob (.lst (ns.map V.int))) else none
    have onA : H a = some (.frz ob (.lst (ns.map V.int))) := if_pos rfl
    have cas : ∀ b o, H b = some o → b = a ∧ o = .frz ob (.lst (ns.map V.int)) := by
      intro b o z
      by_cases hb : b = a
      · subst hb
        rw [onA] at z
        exact ⟨rfl, (Option.some.inj z).symm⟩
      · have : H b = none := if_neg hb
        rw [this] at z; cases z
    refine call_from (ns := ns) (H := H) kx nsm nsb bb lim gg at_a hr F bnd (fun b o z => ?_) (fun b o z => ?_) (hsp H (.inl ⟨ob, onA⟩))
    · obtain ⟨rfl, rfl⟩ := cas b o z
      exact ⟨rfl, hk, _, _, rfl⟩
    · obtain ⟨rfl, rfl⟩ := cas b o z
      exact ⟨at_a, by rw [List.length_map]; exact hl, vs, _, rv, at_a⟩
end
/-- the end of a law's row -/
theorem walk_ofG {l : PySem.W.OpenLaw} {n k : Nat} {q : Program} {loose : List Str} {XP : (Str → Option Value) → Heap → Prop} {YP : World → Heap → Prop} {d : DefRec} {K : Params → PySem.W.Frag} {m : Fn} {x : Str}
    (hn : l.most = some n) (hn2 : n ≤ sizeLine) (hdf : d.params.defaults = []) (hr : Room k callerA)
    (hY : ∀ (w : World) (h : Heap), YP w h → (K w.params).In h)
    (F : ∀ (w : World) (mg : Str → Option Value) (fa : Addr) (h : Heap), (K w.params).In h → h.Ns mainGlobals mg → mg d.name = some (.ref fa) →
      ∃ fd : FuncData, (∀ (s : Shared) (u : Value), BindsTo s fd ⟨[u], []⟩ [(x, u)]) ∧
        ∀ base : Heap, (K w.params).In base → base.Ns mainGlobals mg → FnG l.prog w (K w.params) mg base k fa fd [x] (spF (K w.params) mg m))
    (good : ∀ ns : List Int, ns.length ≤ n → ∃ s, m [.ro ns] [] = .ok (.bl true) s) :
    PySem.W.WalkO q loose XP YP l.row.toRowW d [] (fun f vs => PySem.call f vs) := by
  refine Att.attach_call hn hdf ?_
  intro w s₀ s₁ mg mb fa o pm cd doc a vs ns G Y ho hd hcd hmg hobj hints hlen hg
  have kx := hY w _ Y
  obtain ⟨fd, hb, hF⟩ := F w mg fa _ kx G.T.g hmg
  refine law_callG kx G.T.g G.T.b G.T.builtins G.T.nolimit hg hobj hints (Nat.le_trans hlen hn2) hr hF hb ?_
  intro H hS
  obtain ⟨s, hs⟩ := good ns hlen
  refine ⟨[.ro ns], [], [], c0, c0, ⟨rfl, .nil, fun n p xs e => by simp at e⟩, Reps.one (.ro hS (fun _ => rfl) (fun _ => rfl)), fun x => ⟨Nat.zero_le _, fun z => no0 z⟩, ?_⟩
  rw [hs]
  intro v H' ρ' a' f' _ _ rp _
  exact inv_bl rp
end Zm
set_option Elab.async false
set_option linter.all false
set_option maxRecDepth 100000
set_option autoImplicit false
/-! Z13: what is never reached; lists written by methods and by places; targets of many names. -/
namespace Zm
open PySem PySem.Spec PyProof.Rows L2
@[simp] def mBadE : M := fun _ _ => .bad
@[simp] def mBadS : MS := fun _ _ => .bad
section
variable {X : Cx} {W : WX} {st : Stmt} {sts : List Stmt} {e : Expr}
theorem ss_bad : SS X W st mBadS := ⟨fun pins s σ H D I ⟨_, _, _, _, _, _, h⟩ => h.elim⟩
end
/-! ### the value may be frozen: then the mask's slots are, too -/
def mSetD (msk : List Bool) (i : Nat) (m : M) : MS := fun σ s => (m σ s).to σ fun d s' => if noF d = true then (if i < σ.length then .nx (σ.set i (some d)) s' else .bad) else mSetF msk i m σ s
theorem rS_or {K : PySem.W.Frag} {mg : Str → Option Value} {W : WX} {m m' m2 : MS} {D : Ends} {σ : L2.St} {H : Hp} {P : Prop} (h : rS K mg W m D σ H) (hm : ∀ σ s, m σ s = m' σ s ∨ m σ s = m2 σ s)
    (h1 : rS K mg W m' D σ H → P) (h2 : rS K mg W m2 D σ H → P) : P := by
  obtain ⟨σm, s, ρ, A, F, rel, h⟩ := h
  rcases hm σm s with e | e
  · exact h1 ⟨σm, s, ρ, A, F, rel, e ▸ h⟩
  · exact h2 ⟨σm, s, ρ, A, F, rel, e ▸ h⟩
theorem setD_or {msk : List Bool} {i : Nat} {m : M} (σ : Env) (s : Sto) : mSetD msk i m σ s = mSet i m σ s ∨ mSetD msk i m σ s = mSetF msk i m σ s := by
  unfold mSetD mSet
  cases m σ s with
  | bad => exact .inl rfl
  | ex x s1 => exact .inl rfl
  | ok d s1 =>
    simp only [R.to_ok]
    by_cases z : noF d = true
    · left; by_cases y : i < σ.length <;> simp [z, y]
    · right; simp [z]
section
variable {X : Cx} {W : WX} {e : Expr} {m : M} {pos pos' : Pos} {x : Str}
theorem ss_setD (i : Nat) (msk : List Bool) (nd : X.N.Nodup) (he : SE X W e m) (hi : X.N[i]? = some x := by rfl) (hx : Loc X.env.scope x := by first | exact .inl rfl | exact .inr rfl) (hs : swapsWith e (some (.Name x pos')) pos.line X.env = pure false := by rfl)
    (hf : X.fn x = true ∨ X.env.scope.names.lookup x = some .local := by first | exact .inl rfl | exact .inr rfl) : SS X W (.Assign [.Name x pos'] e pos) (mSetD msk i m) :=
  PS.imp (ps_set nd hi hx he hs hf) fun D σ H h => rS_or h setD_or set_end setF_end
end
/-! ### an owned list at a slot, its contents made anew of them and of arguments -/
abbrev UG := List D → List D → Option (List D)
def mUpdO (g : UG) (i : Nat) (ms : List M) : MS := fun σ s => match σ[i]? with
  | some (some (.lst true xs)) => (mArgs ms σ s).to σ fun ds s' => if noFs ds = true then (match g xs ds with
    | some ys => .nx (σ.set i (some (.lst true ys))) s'
    | none => .bad) else .bad
  | _ => .bad
def mUpdF (g : UG) (msk : List Bool) (i : Nat) (ms : List M) : MS := fun σ s => match (frzE msk σ)[i]? with
  | some (some (.lst true xs)) => (mArgs ms (restr msk σ) s).to σ fun ds s' => (match g xs (fzs ds) with
    | some ys => .nx ((frzE msk σ).set i (some (.lst true ys))) s'
    | none => .bad)
  | _ => .bad
def mUpd (g : UG) (msk : List Bool) (i : Nat) (ms : List M) : MS := fun σ s => match σ[i]? with
  | some (some (.lst true xs)) => (mArgs ms σ s).to σ fun ds s' => if noFs ds = true then (match g xs ds with
    | some ys => .nx (σ.set i (some (.lst true ys))) s'
    | none => .bad) else mUpdF g msk i ms σ s
  | _ => .bad
theorem upd_or {g : UG} {msk : List Bool} {i : Nat} {ms : List M} (σ : Env) (s : Sto) : mUpd g msk i ms σ s = mUpdO g i ms σ s ∨ mUpd g msk i ms σ s = mUpdF g msk i ms σ s := by
  unfold mUpd mUpdO
  split
  · rename_i xs hx
    cases mArgs ms σ s with
    | bad => exact .inl rfl
    | ex x s1 => exact .inl rfl
    | ok ds s1 =>
      simp only [R.to_ok]
      by_cases z : noFs ds = true
      · left; simp [z]
      · right; simp [z]
  · exact .inl rfl
/-- the contents' new values: of the old and of the arguments' -/
def UV (K : PySem.W.Frag) (mg : Str → Option Value) (r : Addr → List V → Hp → Hp → Prop) (g : UG) : Prop :=
  ∀ (H : Hp) (ρ : List Addr) (p : Addr) (xs ds ys : List D) (vs ws : List V) (a1 f1 a f : Cnt), H p = some (.lst vs) → Reps K mg H ρ xs vs a1 f1 → Reps K mg H ρ ds ws a f → g xs ds = some ys →
    ∃ vs' a' f', Reps K mg H ρ ys vs' a' f' ∧ (∀ x, a' x ≤ a1 x + a x ∧ f' x ≤ f1 x + f x) ∧ r p ws H (upd H p (.lst vs'))
section
variable {K : PySem.W.Frag} {mg : Str → Option Value} {W : WX} {H H' H1 : Hp} {ρ ρ' ρ1 : List Addr} {σm : Env} {σ : L2.St} {s s' s1 : Sto} {d e : D} {v : V} {A F A' F' A1 F1 a f Mc : Cnt} {D : Ends} {i : Nat} {g : UG} {ms : List M} {msk : List Bool} {r : Addr → List V → Hp → Hp → Prop}
theorem updO_end (hv : UV K mg r g) (h : rS K mg W (mUpdO g i ms) D σ H) :
    ∃ p l, σ[i]? = some (some (.ref p)) ∧ H p = some (.lst l) ∧ rA K mg W (mArgs ms) σ H fun ws H1 => ∃ l' H2, H1 p = some (.lst l') ∧ r p ws H1 H2 ∧ D.nx σ H2 := by
  obtain ⟨σm, s, ρ, A, F, rel, h⟩ := h
  unfold mUpdO at h
  split at h
  · rename_i xs hσ
    obtain ⟨p, vs, a1, f1, A2, F2, e1, hp, r0, q, wr⟩ := rel.wr hσ
    refine ⟨p, vs, e1, hp, σm, s, ρ, A, F, rel, ?_⟩
    cases e : mArgs ms σm s with
    | bad => rw [e] at h; exact h
    | ex x s1 =>
      rw [e] at h
      exact fun cls dd H' ρ' fr wd rx => h cls dd σ H' ρ' A F fr.up (rel.next fr wd) .refl rx
    | ok ds s1 =>
      rw [e] at h
      intro ws H1 ρ1 a f fr wd rp gd
      simp only [R.to_ok] at h
      split at h
      · rename_i z
        have hf := rp.noF z
        have ev := rel.env.there
        split at h
        · rename_i ys hy
          obtain ⟨hp1, _, _⟩ := wr H1 ρ1 s1 xs vs a1 f1 fr wd (r0.on fr) fun x => by
            have := q x; have s0 := rel.sep x
            exact ⟨by omega, fun z => by have := s0.2 (by omega); omega⟩
          obtain ⟨vs', a', f', r', le, rr⟩ := hv H1 ρ1 p xs ds ys vs ws a1 f1 a f hp1 (r0.on fr) rp hy
          have sp : ∀ x, A x + a x ≤ 1 ∧ (1 ≤ A x + a x → F x = 0) ∧ (1 ≤ a x → H x = none) := fun x => by
            have s0 := rel.sep x
            obtain ⟨g1, g2, g3⟩ := gd x
            by_cases y : 1 ≤ a x
            · have hn := (g2 y).2
              have : ¬ 1 ≤ A x + F x := fun z => by obtain ⟨⟨o, ho⟩, _⟩ := ev x z; rw [hn] at ho; cases ho
              exact ⟨by omega, by omega, fun _ => hn⟩
            · exact ⟨by omega, fun z => s0.2 (by omega), fun z => by omega⟩
          obtain ⟨_, h2, h3⟩ := wr H1 ρ1 s1 ys vs' a' f' fr wd r' fun x => by
            have l := le x
            have q0 := q x
            have s0 := sp x
            have h0 := hf x
            refine ⟨by omega, fun z => ?_⟩
            have := s0.2.1 (by omega)
            omega
          refine ⟨vs, _, hp1, rr, h _ _ _ _ _ h2 h3 fun x => ?_⟩
          have l := le x
          have q0 := q x
          have s0 := sp x
          have h0 := hf x
          refine ⟨fun y => ?_, fun y => .inr (.inl (by omega))⟩
          by_cases w : 1 ≤ a x
          · exact .inr (s0.2.2 w)
          · exact .inl (by omega)
        · exact h.elim
      · exact h.elim
  · exact h.elim
theorem updF_end (hv : UV K mg r g) (h : rS K mg W (mUpdF g msk i ms) D σ H) :
    ∃ p l, σ[i]? = some (some (.ref p)) ∧ H p = some (.lst l) ∧ rA K mg W (mArgs ms) σ H fun ws H1 => ∃ l' H2, H1 p = some (.lst l') ∧ r p ws H1 H2 ∧ D.nx σ H2 := by
  obtain ⟨σm, s, ρ, A, F, rel, h⟩ := h
  unfold mUpdF at h
  split at h
  · rename_i xs hσ
    obtain ⟨Am, Fm, Ar, F2', r1, r2, qm⟩ := rel.mask (msk := msk)
    have rel2 : Rel K mg (frzE msk σm) s σ H ρ Ar F2' := ⟨r2, rel.wd, fun x => by
      have s0 := rel.sep x
      have q0 := qm x
      refine ⟨by omega, fun z => ?_⟩
      have := s0.2 (by omega)
      by_cases w : 1 ≤ F2' x
      · have := q0.2.2 w; omega
      · omega⟩
    obtain ⟨p, vs, a1, f1, A2, F2, e1, hp, r0, q, wr⟩ := rel2.wr hσ
    refine ⟨p, vs, e1, hp, _, s, ρ, Am, Fm, r1, ?_⟩
    cases e : mArgs ms (restr msk σm) s with
    | bad => rw [e] at h; exact h
    | ex x s1 =>
      rw [e] at h
      exact fun cls dd H' ρ' fr wd rx => h cls dd σ H' ρ' A F fr.up (rel.next fr wd) .refl rx
    | ok ds s1 =>
      rw [e] at h
      intro ws H1 ρ1 a f fr wd rp gd
      simp only [R.to_ok] at h
      obtain ⟨f0, rp', qf⟩ := rp.fz
      have ev := rel.env.there
      have key : ∀ x, 1 ≤ f0 x → 1 ≤ Am x ∨ 1 ≤ Fm x ∨ H x = none := fun x h => by
        have := qf x h
        obtain ⟨g1, g2, g3⟩ := gd x
        by_cases z : 1 ≤ a x
        · exact .inr (.inr (g2 z).2)
        · exact g3 (by omega)
      split at h
      · rename_i ys hy
        obtain ⟨hp1, _, _⟩ := wr H1 ρ1 s1 xs vs a1 f1 fr wd (r0.on fr) fun x => by
          have := q x; have s0 := rel2.sep x
          exact ⟨by omega, fun z => by have := s0.2 (by omega); omega⟩
        obtain ⟨vs', a', f', r', le, rr⟩ := hv H1 ρ1 p xs (fzs ds) ys vs ws a1 f1 c0 f0 hp1 (r0.on fr) rp' hy
        have sp : ∀ x, Ar x ≤ 1 ∧ (1 ≤ Ar x → F2' x = 0 ∧ f0 x = 0) := fun x => by
          have s0 := rel2.sep x
          have s1 := rel.sep x
          have q0 := qm x
          refine ⟨s0.1, fun y => ⟨s0.2 y, ?_⟩⟩
          cases w : f0 x with
          | zero => rfl
          | succ k =>
            rcases key x (by omega) with w | w | w
            · omega
            · have := s1.2 (by omega); omega
            · obtain ⟨⟨o, ho⟩, _⟩ := ev x (by omega)
              rw [w] at ho; cases ho
        obtain ⟨_, h2, h3⟩ := wr H1 ρ1 s1 ys vs' a' f' fr wd r' fun x => by
          have l := le x
          have q0 := q x
          have s0 := sp x
          have z0 : c0 x = 0 := rfl
          refine ⟨by omega, fun z => ?_⟩
          have := s0.2 (by omega)
          omega
        have frA : Fr A H (upd H1 p (.lst vs')) ρ ρ1 := h2.mono fun x y => .inl (by have := qm x; omega)
        refine ⟨vs, _, hp1, rr, h _ _ _ _ _ frA h3 fun x => ?_⟩
        have l := le x
        have q0 := q x
        have m0 := qm x
        have z0 : c0 x = 0 := rfl
        refine ⟨fun y => .inl (by omega), fun y => ?_⟩
        by_cases w : 1 ≤ f0 x
        · rcases key x w with w | w | w
          · exact .inl (by omega)
          · exact .inr (.inl (by omega))
          · exact .inr (.inr w)
        · have := m0.2.2 (by omega)
          omega
      · exact h.elim
  · exact h.elim
theorem upd_end (hv : UV K mg r g) (h : rS K mg W (mUpd g msk i ms) D σ H) :
    ∃ p l, σ[i]? = some (some (.ref p)) ∧ H p = some (.lst l) ∧ rA K mg W (mArgs ms) σ H fun ws H1 => ∃ l' H2, H1 p = some (.lst l') ∧ r p ws H1 H2 ∧ D.nx σ H2 :=
  rS_or h upd_or (updO_end hv) (updF_end hv)
end
end Zm
set_option Elab.async false
set_option linter.all false
set_option maxRecDepth 100000
set_option autoImplicit false
/-! Z14: the list's methods as statements; stores by place; many names at once. -/
namespace Zm
open PySem PySem.Spec PyProof.Rows L2
section
variable {K : PySem.W.Frag} {mg : Str → Option Value} {W : WX} {σ : L2.St} {H : Hp} {ms : List M}
theorem rA_mono {Q Q' : List V → Hp → Prop} (h : rA K mg W (mArgs ms) σ H Q) (q : ∀ v H', Q v H' → Q' v H') : rA K mg W (mArgs ms) σ H Q' := by
  obtain ⟨σm, s, ρ, A, F, rel, h⟩ := h
  refine ⟨σm, s, ρ, A, F, rel, ?_⟩
  cases e1 : mArgs ms σm s with
  | bad => rw [e1] at h; exact h
  | ex x s1 => rw [e1] at h; exact h
  | ok d s1 =>
    rw [e1] at h
    intro v H1 ρ1 a f fr wd rp g
    exact q _ _ (h v H1 ρ1 a f fr wd rp g)
end
abbrev rrM (rM : V → List V → Hp → VK → Prop) : Addr → List V → Hp → Hp → Prop := fun p ws H H2 => ∀ Q : VK, Q .non H2 → rM (.ref p) ws H Q
section
variable {X : Cx} {W : WX} {e : Expr} {es : List Expr} {m : M} {ms : List M} {pos pos' apos cpos : Pos} {x : Str} {name : Str} {id : String} {rM : V → List V → Hp → VK → Prop} {g : UG}
theorem ss_met (i : Nat) (msk : List Bool) (slot : Slot "list" name id) (hty : typeOf (.builtin id) = pure (.type "method_descriptor")) (hm : MtR X id rM) (hv : UV X.K X.mg (rrM rM) g) (ha : SA X W (e :: es) ms) (hN : X.N[i]? = some x := by rfl)
    (hvis : Vis X.env.scope x := by first | exact Or.inl rfl | exact Or.inr (Or.inl rfl) | exact Or.inr (Or.inr rfl)) (hd : (x == ("__debug__" : Str)) = false := by decide) (hcd : (x == ("__classdict__" : Str)) = false := by decide)
    (hst : starEach (e :: es) X.env = (false, eval e X.env) :: starEach es X.env := by rfl) (hplain : (backTo cpos (starEach es X.env)).any (·.1) = false := by rfl) (hline : (apos.endLine == cpos.line) = true := by rfl)
    (hfew : ((backTo cpos (starEach (e :: es) X.env)).all (fun x => !x.1) && (backToKw cpos (keywordEach [] X.env)).all (fun x => x.1.isSome) && decide ((e :: es).length + ([] : List Keyword).length + (if ([] : List Keyword).isEmpty then 0 else 1) < 30)) = true := by rfl)
    (hs : swapsWith (.Call (.Attribute (.Name x pos') name apos) (e :: es) [] cpos) none pos.line X.env = pure false := by rfl) :
    SS X W (.Expr (.Call (.Attribute (.Name x pos') name apos) (e :: es) [] cpos) pos) (mUpd g msk i ms) :=
  PS.imp (ps_expr (pe_bm PySem.F.plainAttrs_list slot hty hm (pe_var hN hvis hd hcd) ha (hbase := by rfl) (hfew := hfew) (hline := hline) (hs := hst) (hplain := hplain)) hs) fun D σ H h => by
    obtain ⟨p, l, e1, hp, h⟩ := upd_end hv h
    exact ⟨_, e1, .inl ⟨rfl, _, SqL.of hp⟩, rA_mono h fun ws H1 ⟨l', H2, _, rr, q⟩ => rr _ q⟩
end
def uApp : UG := fun xs ds => match ds with
  | [d] => if xs.length < sizeLine then some (xs ++ [d]) else none
  | _ => none
section
variable {K : PySem.W.Frag} {mg : Str → Option Value}
theorem u_app : UV K mg (rrM rAppend) uApp := by
  intro H ρ p xs ds ys vs ws a1 f1 a f hp r1 r2 e
  unfold uApp at e
  split at e
  · split at e
    · rename_i z
      cases e
      obtain ⟨v, rfl, rv⟩ := r2.inv1
      exact ⟨vs ++ [v], _, _, r1.append r2, fun x => ⟨Nat.le_refl _, Nat.le_refl _⟩, fun Q q => ⟨p, vs, v, rfl, rfl, hp, by rw [← r1.length]; exact z, q⟩⟩
    · cases e
  · cases e
end
section
variable {X : Cx} {W : WX} {e : Expr} {m : M} {pos pos' apos cpos : Pos} {x : Str}
theorem ss_appD (i : Nat) (msk : List Bool) (he : SE X W e m) (hN : X.N[i]? = some x := by rfl) (hvis : Vis X.env.scope x := by first | exact Or.inl rfl | exact Or.inr (Or.inl rfl) | exact Or.inr (Or.inr rfl)) (hd : (x == ("__debug__" : Str)) = false := by decide) (hcd : (x == ("__classdict__" : Str)) = false := by decide)
    (hst : starEach [e] X.env = [(false, eval e X.env)] := by rfl) (hline : (apos.endLine == cpos.line) = true := by rfl) (hs : swapsWith (.Call (.Attribute (.Name x pos') "append" apos) [e] [] cpos) none pos.line X.env = pure false := by rfl) :
    SS X W (.Expr (.Call (.Attribute (.Name x pos') "append" apos) [e] [] cpos) pos) (mUpd uApp msk i [m]) :=
  ss_met i msk PySem.F.slot_list_append PySem.F.type_list_append mt_append u_app (sa_cons he sa_nil hst) hN hvis hd hcd hst rfl hline (by rw [hst]; rfl) hs
end
/-! ### x[k] = e, x an owned list or a box -/
def uSet : UG := fun xs ds => match ds with
  | [d, .int k] => match ixN xs.length k with
    | some j => some (xs.set j d)
    | none => none
  | _ => none
def mStB (i : Nat) (mi m : M) : MS := fun σ s => match σ[i]? with
  | some (some (.box n)) => (mArgs [m, mi] σ s).to σ fun ds s' => match s'[n]? with
    | some xs => match uSet xs ds with
      | some ys => if plains ys = true then .nx σ (s'.set n ys) else .bad
      | none => .bad
    | none => .bad
  | _ => .bad
def mSt (msk : List Bool) (i : Nat) (mi m : M) : MS := fun σ s => match σ[i]? with
  | some (some (.box n)) => (mArgs [m, mi] σ s).to σ fun ds s' => match s'[n]? with
    | some xs => match uSet xs ds with
      | some ys => if plains ys = true then .nx σ (s'.set n ys) else .bad
      | none => .bad
    | none => .bad
  | _ => mUpd uSet msk i [m, mi] σ s
theorem st_or {msk : List Bool} {i : Nat} {m mi : M} (σ : Env) (s : Sto) : mSt msk i mi m σ s = mStB i mi m σ s ∨ mSt msk i mi m σ s = mUpd uSet msk i [m, mi] σ s := by
  unfold mSt mStB
  split
  · rename_i n h; exact .inl rfl
  · exact .inr rfl
abbrev rrS : Addr → List V → Hp → Hp → Prop := fun p ws H H2 => ∃ y k, ws = [y, k] ∧ ∀ Q : Hp → Prop, Q H2 → rSetL (.ref p) k y H Q
section
variable {K : PySem.W.Frag} {mg : Str → Option Value} {W : WX} {H H' H1 : Hp} {ρ ρ' ρ1 : List Addr} {σm : Env} {σ : L2.St} {s s' s1 : Sto}
theorem ixN_lt {n j : Nat} {k : Int} (h : ixN n k = some j) : j < n := (ixN_seq h).2.1
theorem u_set : UV K mg rrS uSet := by
  intro H ρ p xs ds ys vs ws a1 f1 a f hp r1 r2 e
  unfold uSet at e
  split at e
  · rename_i d k
    split at e
    · rename_i j hj
      cases e
      obtain ⟨v, u, ax, fx, ay, fy, rfl, rv, ru, q⟩ := r2.inv2
      cases ru
      have hl := ixN_lt hj
      obtain ⟨w, a0, f0, h1, h2, A', F', h3, h4⟩ := r1.set (i := j) (d := xs[j]) (List.getElem?_eq_getElem hl) rv
      exact ⟨vs.set j v, A', F', h3, fun x => by have := h4 x; have := q x; omega, v, _, rfl, fun Q q => ⟨p, vs, k, j, rfl, rfl, hp, by rw [← r1.length]; exact hj, q⟩⟩
    · cases e
  · cases e
/-- a box written -/
theorem wd_box {n : Nat} {p : Addr} {xs ys : List D} {l l' : List V} {a f : Cnt} (wd : Wd K mg ρ s H) (hn : ρ[n]? = some p) (hs : s[n]? = some xs) (hp : H p = some (.lst l)) (hy : plains ys = true) (r : Reps K mg H ρ ys l' a f) : Wd K mg ρ (s.set n ys) (upd H p (.lst l')) ∧ Fr c0 H (upd H p (.lst l')) ρ ρ := by
  have hm : p ∈ ρ := List.mem_of_getElem? hn
  have fr : Fr c0 H (upd H p (.lst l')) ρ ρ := by
    refine ⟨fun x o q => ?_, fun x q => ?_, [], by simp, by simp⟩
    · by_cases z : x = p
      · subst z
        rw [hp] at q; cases q
        exact .inr ⟨trivial, .inl hm⟩
      · rw [upd_ne z]; exact .inl q
    · by_cases z : x = p
      · subst z; rw [upd_same] at q; cases q
      · rw [upd_ne z] at q; exact q
  have hnl : n < s.length := (List.getElem?_eq_some_iff.mp hs).1
  refine ⟨⟨by rw [List.length_set]; exact wd.len, wd.nd, fun k b zs z1 z2 => ?_⟩, fr⟩
  by_cases e : k = n
  · subst e
    rw [hn] at z1; cases z1
    rw [List.getElem?_set_self hnl] at z2; cases z2
    exact ⟨hy, l', a, f, upd_same, r.on fr⟩
  · rw [List.getElem?_set_ne (fun z => e z.symm)] at z2
    obtain ⟨w1, ws, a', f', w2, w3⟩ := wd.at_ k b zs z1 z2
    have nb : b ≠ p := fun z => by
      subst z
      have h1 := List.getElem?_eq_some_iff.mp z1
      have h2 := List.getElem?_eq_some_iff.mp hn
      obtain ⟨i1, q1⟩ := h1
      obtain ⟨i2, q2⟩ := h2
      have hnd := List.pairwise_iff_getElem.mp wd.nd
      rcases Nat.lt_trichotomy k n with w | w | w
      · exact hnd k n i1 i2 w (q1.trans q2.symm)
      · exact e w
      · exact hnd n k i2 i1 w (q2.trans q1.symm)
    exact ⟨w1, ws, a', f', by rw [upd_ne nb]; exact w2, w3.on fr⟩
theorem stB_end {i : Nat} {m mi : M} {D : Ends} (h : rS K mg W (mStB i mi m) D σ H) :
    ∃ p, σ[i]? = some (some (.ref p)) ∧ rA K mg W (mArgs [m, mi]) σ H fun ws H1 => ∃ H2, rrS p ws H1 H2 ∧ D.nx σ H2 := by
  obtain ⟨σm, s, ρ, A, F, rel, h⟩ := h
  unfold mStB at h
  split at h
  · rename_i n hσ
    obtain ⟨v, a0, f0, e1, rp0, _⟩ := rel.env.get hσ
    cases rp0 with
    | @box _ p _ _ hn _ _ =>
      refine ⟨p, e1, σm, s, ρ, A, F, rel, ?_⟩
      cases e : mArgs [m, mi] σm s with
      | bad => rw [e] at h; exact h
      | ex x s1 =>
        rw [e] at h
        exact fun cls dd H' ρ' fr wd rx => h cls dd σ H' ρ' A F fr.up (rel.next fr wd) .refl rx
      | ok ds s1 =>
        rw [e] at h
        intro ws H1 ρ1 a f fr wd rp gd
        simp only [R.to_ok] at h
        split at h
        · rename_i xs hxs
          split at h
          · rename_i ys hys
            split at h
            · rename_i hpl
              obtain ⟨pl, vs, a1, f1, hp, r1⟩ := wd.at_ n p xs (fr.get hn) hxs
              obtain ⟨vs', a', f', r', le, rr⟩ := u_set H1 ρ1 p xs ds ys vs ws a1 f1 a f hp r1 rp hys
              obtain ⟨wd2, fr2⟩ := wd_box wd (fr.get hn) hxs hp hpl r'
              refine ⟨_, rr, h _ _ _ _ _ ((fr.tr fr2).up) ((rel.next fr wd).next fr2 wd2) .refl⟩
            · exact h.elim
          · exact h.elim
        · exact h.elim
  · exact h.elim
theorem st_end {msk : List Bool} {i : Nat} {m mi : M} {D : Ends} (h : rS K mg W (mSt msk i mi m) D σ H) :
    ∃ p, σ[i]? = some (some (.ref p)) ∧ rA K mg W (mArgs [m, mi]) σ H fun ws H1 => ∃ H2, rrS p ws H1 H2 ∧ D.nx σ H2 :=
  rS_or h st_or stB_end fun h => by
    obtain ⟨p, l, e1, hp, h⟩ := upd_end u_set h
    exact ⟨p, e1, rA_mono h fun ws H1 ⟨l', H2, _, rr, q⟩ => ⟨H2, rr, q⟩⟩
end
section
variable {X : Cx} {W : WX} {e ei : Expr} {m mi : M} {pos pos' spos : Pos} {x : Str}
theorem ss_st (i : Nat) (msk : List Bool) (he : SE X W e m) (hi : SE X W ei mi) (hN : X.N[i]? = some x := by rfl) (hvis : Vis X.env.scope x := by first | exact Or.inl rfl | exact Or.inr (Or.inl rfl) | exact Or.inr (Or.inr rfl)) (hd : (x == ("__debug__" : Str)) = false := by decide) (hcd : (x == ("__classdict__" : Str)) = false := by decide)
    (ha : ∀ v, assign (.Subscript (.Name x pos') ei spos) X.env v = (do
      let ov ← holding [v] (eval (.Name x pos') X.env)
      let iv ← holding [v, ov] (eval ei X.env)
      standAt spos
      holding [v, ov, iv] (setItem ov iv v)
      release [v, ov, iv] []) := by intro _; rfl)
    (hs : swapsWithSole [.Subscript (.Name x pos') ei spos] e pos.line X.env = pure false := by rfl) (hw : swappedStores [.Subscript (.Name x pos') ei spos] e X.env = pure none := by rfl)
    (h1 : (assignEach [.Subscript (.Name x pos') ei spos] X.env).map (·.2) = [assign (.Subscript (.Name x pos') ei spos) X.env] := by rfl) :
    SS X W (.Assign [.Subscript (.Name x pos') ei spos] e pos) (mSt msk i mi m) :=
  PS.imp (ps_asg he (pg_sub (pe_var hN hvis hd hcd) hi set_list ha) hs hw h1) fun D σ H h => by
    obtain ⟨p, e1, h⟩ := st_end h
    exact rE_mono (rA_2 h) fun v H1 q => ⟨_, e1, rE_mono q fun u H2 ⟨H3, ⟨y, k, e, rr⟩, q⟩ => by cases e; exact rr _ q⟩
end
end Zm
set_option Elab.async false
set_option linter.all false
set_option maxRecDepth 100000
set_option autoImplicit false
/-! Z15: sum, max, min of tuples; names stored side by side. -/
namespace Zm
open PySem PySem.Spec PyProof.Rows L2
section
variable {X : Cx}
end
theorem CallR.or {X : Cx} {f : Value} {r r' : List V → Hp → VK → Prop} (h : CallR X f r) (h' : CallR X f r') : CallR X f (fun vs H Q => r vs H Q ∨ r' vs H Q) := fun pins s σ H xs us Q I rv w => w.elim (h pins s σ H xs us Q I rv) (h' pins s σ H xs us Q I rv)
theorem OpV.or {K : PySem.W.Frag} {mg : Str → Option Value} {r r' : List V → Hp → VK → Prop} {g g' : Sto → List D → Option D} (h : OpV K mg r g) (h' : OpV K mg r' g') : OpV K mg (fun vs H Q => r vs H Q ∨ r' vs H Q) (fun s ds => match g s ds with
  | some d => some d
  | none => g' s ds) := fun ρ s H ds vs a f d w rp sp e Q q => by
  dsimp only at e
  cases e1 : g s ds with
  | some d' => rw [e1] at e; cases e; exact .inl (h ρ s H ds vs a f _ w rp sp e1 Q q)
  | none => rw [e1] at e; exact .inr (h' ρ s H ds vs a f d w rp sp e Q q)
section
variable {K : PySem.W.Frag} {mg : Str → Option Value}
end
/-! ### a, b = x, y -/
def mPar2 (msk : List Bool) (i j : Nat) (ms : List M) : MS := fun σ s => (mArgs ms σ s).to σ fun ds s' => match ds with
  | [d, e] => if noF d = true ∧ noF e = true then (if i < σ.length ∧ j < σ.length then .nx ((σ.set i (some d)).set j (some e)) s' else .bad) else
    (mArgs ms (restr msk σ) s).to σ fun ds s' => match ds with
      | [d, e] => if i < σ.length ∧ j < σ.length then .nx (((frzE msk σ).set i (some (fz d))).set j (some (fz e))) s' else .bad
      | _ => .bad
  | _ => .bad
def mPar2O (i j : Nat) (ms : List M) : MS := fun σ s => (mArgs ms σ s).to σ fun ds s' => match ds with
  | [d, e] => if noF d = true ∧ noF e = true then (if i < σ.length ∧ j < σ.length then .nx ((σ.set i (some d)).set j (some e)) s' else .bad) else .bad
  | _ => .bad
def mPar2F (msk : List Bool) (i j : Nat) (ms : List M) : MS := fun σ s => (mArgs ms (restr msk σ) s).to σ fun ds s' => match ds with
  | [d, e] => if i < σ.length ∧ j < σ.length then .nx (((frzE msk σ).set i (some (fz d))).set j (some (fz e))) s' else .bad
  | _ => .bad
theorem par2_or {msk : List Bool} {i j : Nat} {ms : List M} (σ : Env) (s : Sto) : mPar2 msk i j ms σ s = mPar2O i j ms σ s ∨ mPar2 msk i j ms σ s = mPar2F msk i j ms σ s := by
  unfold mPar2 mPar2O mPar2F
  cases mArgs ms σ s with
  | bad => exact .inl rfl
  | ex x s1 => exact .inl rfl
  | ok ds s1 =>
    simp only [R.to_ok]
    split
    · rename_i d e
      by_cases z : noF d = true ∧ noF e = true
      · left; simp [z]
      · right; rw [if_neg z]
    · exact .inl rfl
section
variable {K : PySem.W.Frag} {mg : Str → Option Value} {W : WX} {H H' H1 : Hp} {ρ ρ' ρ1 : List Addr} {σm : Env} {σ : L2.St} {s s' s1 : Sto} {d e : D} {v u : V} {A F A' F' A1 F1 a f Mc : Cnt} {D : Ends} {i j : Nat} {ms : List M} {msk : List Bool}
theorem par2O_end (h : rS K mg W (mPar2O i j ms) D σ H) : rA K mg W (mArgs ms) σ H fun vs H1 => ∃ v w, vs = [v, w] ∧ D.nx ((σ.set i (some v)).set j (some w)) H1 := by
  obtain ⟨σm, s, ρ, A, F, rel, h⟩ := h
  refine ⟨σm, s, ρ, A, F, rel, ?_⟩
  unfold mPar2O at h
  cases e : mArgs ms σm s with
  | bad => rw [e] at h; exact h
  | ex x s1 =>
    rw [e] at h
    exact fun cls dd H' ρ' fr wd rx => h cls dd σ H' ρ' A F fr.up (rel.next fr wd) .refl rx
  | ok ds s1 =>
    rw [e] at h
    intro ws H1 ρ1 a f fr wd rp gd
    simp only [R.to_ok] at h
    split at h
    · rename_i d e
      split at h
      · rename_i hz
        split at h
        · rename_i hl
          obtain ⟨v, w, ax, fx, ay, fy, rfl, rv, rw', q⟩ := rp.inv2
          have hf1 := rv.noF hz.1
          have hf2 := rw'.noF hz.2
          have r1 := rel.next fr wd
          obtain ⟨A1, F1, e1, l1, _⟩ := r1.env.set i rv hl.1
          obtain ⟨A2, F2, e2, l2, _⟩ := e1.set j rw' (by rw [List.length_set]; exact hl.2)
          have ev := rel.env.there
          have sp : ∀ x, (1 ≤ a x → H x = none ∧ A x = 0 ∧ F x = 0) := fun x y => by
            have hn := ((gd x).2.1 y).2
            have : ¬ 1 ≤ A x + F x := fun z => by obtain ⟨⟨o, ho⟩, _⟩ := ev x z; rw [hn] at ho; cases ho
            exact ⟨hn, by omega, by omega⟩
          refine ⟨v, w, rfl, h _ _ _ A2 F2 fr.up ⟨e2, wd, fun x => ?_⟩ fun x => ?_⟩
          · have := l1 x; have := l2 x; have := q x; have := hf1 x; have := hf2 x
            have s0 := rel.sep x
            have g1 := (gd x).1
            by_cases y : 1 ≤ a x
            · have := sp x y; omega
            · exact ⟨by omega, fun z => by have := s0.2 (by omega); omega⟩
          · have := l1 x; have := l2 x; have := q x; have := hf1 x; have := hf2 x
            refine ⟨fun y => ?_, fun y => .inr (.inl (by omega))⟩
            by_cases w : 1 ≤ a x
            · exact .inr (sp x w).1
            · exact .inl (by omega)
        · exact h.elim
      · exact h.elim
    · exact h.elim
theorem par2F_end (h : rS K mg W (mPar2F msk i j ms) D σ H) : rA K mg W (mArgs ms) σ H fun vs H1 => ∃ v w, vs = [v, w] ∧ D.nx ((σ.set i (some v)).set j (some w)) H1 := by
  obtain ⟨σm, s, ρ, A, F, rel, h⟩ := h
  obtain ⟨Am, Fm, Ar, F2', r1, r2, qm⟩ := rel.mask (msk := msk)
  refine ⟨_, s, ρ, Am, Fm, r1, ?_⟩
  unfold mPar2F at h
  cases e : mArgs ms (restr msk σm) s with
  | bad => rw [e] at h; exact h
  | ex x s1 =>
    rw [e] at h
    exact fun cls dd H' ρ' fr wd rx => h cls dd σ H' ρ' A F fr.up (rel.next fr wd) .refl rx
  | ok ds s1 =>
    rw [e] at h
    intro ws H1 ρ1 a f fr wd rp gd
    simp only [R.to_ok] at h
    split at h
    · rename_i d e
      split at h
      · rename_i hl
        obtain ⟨v, w, ax, fx, ay, fy, rfl, rv, rw', q⟩ := rp.inv2
        obtain ⟨f1, rv', qf1⟩ := rv.fz
        obtain ⟨f2, rw'', qf2⟩ := rw'.fz
        have e0 := r2.frame fr fun _ hx => no0 hx
        obtain ⟨A1, F1, e1, l1, _⟩ := e0.set i rv' (by rw [frzE_length]; exact hl.1)
        obtain ⟨A2, F2, e2, l2, _⟩ := e1.set j rw'' (by rw [List.length_set, frzE_length]; exact hl.2)
        have ev := rel.env.there
        have key : ∀ x, 1 ≤ f1 x + f2 x → 1 ≤ Am x ∨ 1 ≤ Fm x ∨ H x = none := fun x h => by
          have := qf1 x
          have := qf2 x
          obtain ⟨g1, g2, g3⟩ := gd x
          have := q x
          by_cases z : 1 ≤ a x
          · exact .inr (.inr (g2 z).2)
          · refine g3 ?_
            by_cases y : 1 ≤ f1 x
            · have := qf1 x y; omega
            · have := qf2 x (by omega); omega
        refine ⟨v, w, rfl, h _ _ _ A2 F2 fr.up ⟨e2, wd, fun x => ?_⟩ fun x => ?_⟩
        · have := l1 x; have := l2 x
          have z0 : c0 x = 0 := rfl
          have s0 := rel.sep x
          have q0 := qm x
          refine ⟨by omega, fun y => ?_⟩
          have hA : 1 ≤ A x := by omega
          have hF := s0.2 hA
          obtain ⟨⟨o, ho⟩, _⟩ := ev x (by omega)
          have h1 : F2' x = 0 := by
            cases z : F2' x with
            | zero => rfl
            | succ k => have := q0.2.2 (by omega); omega
          have h2 : ¬ 1 ≤ f1 x + f2 x := fun z => by
            rcases key x z with w | w | w
            · omega
            · omega
            · rw [w] at ho; cases ho
          omega
        · have := l1 x; have := l2 x
          have z0 : c0 x = 0 := rfl
          have q0 := qm x
          refine ⟨fun y => .inl (by omega), fun y => ?_⟩
          by_cases z : 1 ≤ f1 x + f2 x
          · rcases key x z with w | w | w
            · exact .inl (by omega)
            · exact .inr (.inl (by omega))
            · exact .inr (.inr w)
          · have := q0.2.2 (by omega)
            omega
      · exact h.elim
    · exact h.elim
end
section
variable {X : Cx} {W : WX} {a b : Expr} {ms : List M} {pos px py pt : Pos} {x y : Str} {kt k2 : Nat} {pt2 : Pos}
theorem ss_par2 (i j : Nat) (msk : List Bool) (hc : X.calm = true) (nd : X.N.Nodup) (ha : SA X W [a, b] ms) (hi : X.N[i]? = some x := by rfl) (hj : X.N[j]? = some y := by rfl) (hij : i ≠ j := by decide)
    (hx : X.env.scope.names.lookup x = some .local := by rfl) (hy : X.env.scope.names.lookup y = some .local := by rfl)
    (hw : swappedStores [.Tuple [.Name x px, .Name y py] kt pt] (.Tuple [a, b] k2 pt2) X.env = pure (some [x, y]) := by rfl)
    (hs : swapsWithSole [.Tuple [.Name x px, .Name y py] kt pt] (.Tuple [a, b] k2 pt2) pos.line X.env = pure false := by rfl) :
    SS X W (.Assign [.Tuple [.Name x px, .Name y py] kt pt] (.Tuple [a, b] k2 pt2) pos) (mPar2 msk i j ms) :=
  PS.imp (ps_par hc nd hi hj hij hx hy ha hw hs) fun D σ H h => rS_or h par2_or par2O_end par2F_end
end
end Zm
set_option Elab.async false
set_option linter.all false
set_option maxRecDepth 100000
set_option autoImplicit false
/-! Z16: many names from one value; types as values. -/
namespace Zm
open PySem PySem.Spec PyProof.Rows L2
def mUnp (msk : List Bool) (tg : Tg) (m : M) : MS := fun σ s => (m (restr msk σ) s).to σ fun d s' => match tg.bind (fz d) (frzE msk σ) with
  | some σ' => .nx σ' s'
  | none => .bad
section
variable {K : PySem.W.Frag} {mg : Str → Option Value} {W : WX} {H : Hp} {σ : L2.St} {D : Ends} {msk : List Bool} {tg : Tg} {m : M}
theorem unp_end (h : rS K mg W (mUnp msk tg m) D σ H) : rE K mg W m σ H fun x H1 => rG K mg tg x σ H1 D.nx := by
  obtain ⟨σm, s, ρ, A, F, rel, h⟩ := h
  refine rEF_of_to rel h fun d s1 v H1 ρ1 a f Am Fm Ar F2 fr wd rp g r2 q h => ?_
  split at h
  · rename_i σ1 hb
    obtain ⟨f', rp', qf⟩ := rp.fz
    have ev := rel.env.there
    have key : ∀ x, 1 ≤ f' x → 1 ≤ Am x ∨ 1 ≤ Fm x ∨ H x = none := fun x h => by
      have := qf x h
      obtain ⟨g1, g2, g3⟩ := g x
      by_cases z : 1 ≤ a x
      · exact .inr (.inr (g2 z).2)
      · exact g3 (by omega)
    refine ⟨frzE msk σm, s1, ρ1, Ar, F2, fz d, f', ⟨r2.frame fr fun _ hx => no0 hx, wd, fun x => ?_⟩, rp', fun x z => ?_, σ1, hb, fun σ' A' F' rel' le ch => h σ' H1 ρ1 A' F' fr.up rel' fun x => ?_⟩
    · have s0 := rel.sep x
      have q0 := q x
      refine ⟨by omega, fun z => ?_⟩
      have := s0.2 (by omega)
      by_cases w : 1 ≤ F2 x
      · have := q0.2.2 w; omega
      · omega
    · have s0 := rel.sep x
      have q0 := q x
      by_cases y : 1 ≤ Ar x
      · have := s0.2 (by omega)
        rcases key x z with w | w | w
        · omega
        · omega
        · obtain ⟨⟨o, ho⟩, _⟩ := ev x (by omega)
          rw [w] at ho; cases ho
      · omega
    · have q0 := q x
      have l := le x
      refine ⟨fun y => .inl (by omega), fun y => ?_⟩
      rcases l.2 y with w | w
      · rcases q0.2.2 w with u | u
        · exact .inr (.inl u)
        · exact .inl (by omega)
      · rcases key x w with u | u | u
        · exact .inl (by omega)
        · exact .inr (.inl (by omega))
        · exact .inr (.inr u)
  · exact h.elim
end
section
variable {X : Cx} {W : WX} {e tge : Expr} {m : M} {tg : Tg} {pos : Pos}
theorem s_ty {x : Str} {T : String} {pos : Pos} (hm : X.mg x = none) (hb : bootBuiltins x = some (.type T)) (hg : Gl X x := by rfl) (hn : x ≠ "__name__" := by decide) (hd : (x == ("__debug__" : Str)) = false := by decide) : SE X W (.Name x pos) (mC (.ty T)) :=
  PE.imp (pe_bltn (v := .ty T) hg hm hb rfl hn hd) fun σ H Q h => rE_c (fun _ _ => .ty (fun _ => rfl) (fun _ => rfl)) h
end
end Zm
namespace Zm
open PySem PySem.Spec PyProof.Rows L2
section
variable {X : Cx} {W : WX} {tge iter elt : Expr} {ifs : List Expr} {src : Src} {tg : Tg} {t : T} {m : M} {pos py spos : Pos} {scope : Scope} {own : List (Str × Nat)} {y : Str}
theorem ss_setLc (i : Nat) (msk : List Bool) (hc : X.calm = true) (nd : X.N.Nodup) (hi : SI X W false tge iter src) (ok : BlkOk X.N X.env.scope scope own)
    (hg : ∀ (s : Shared) (H : Hp) (C : Addr) (cl : List (Str × Addr)) (fp : List Addr), SG (X.blk s H scope (compEnvC scope cl C X.env) fp) tge tg)
    (ht : ∀ (s : Shared) (H : Hp) (C : Addr) (cl : List (Str × Addr)) (fp : List Addr), STs (X.blk s H scope (compEnvC scope cl C X.env) fp) W0 ifs t)
    (he : ∀ (s : Shared) (H : Hp) (C : Addr) (cl : List (Str × Addr)) (fp : List Addr), SE (X.blk s H scope (compEnvC scope cl C X.env) fp) W0 elt m)
    (hy : X.N[i]? = some y := by rfl) (hyl : X.env.scope.names.lookup y = some .local := by rfl)
    (hsw : swapsWith (.ListComp elt [⟨tge, iter, ifs, 0⟩] scope pos) (some (.Name y py)) spos.line X.env = pure true := by rfl) (hs : ∀ x, foldedSetIterable iter X.env x = pure x := by intro _; rfl) :
    SS X W (.Assign [.Name y py] (.ListComp elt [⟨tge, iter, ifs, 0⟩] scope pos) spos) (mSetD msk i (mLc src tg (own.map (·.2)) t m)) :=
  PS.imp (ps_setLc (g := rG X.K X.mg tg) (tt := rT X.K X.mg W0 t) (te := rE X.K X.mg W0 m) hc nd hy hyl hsw hi ok hg ht he hs) fun D σ H h => rE_lc (rS_or h setD_or set_end setF_end)
end
end Zm
set_option Elab.async false
set_option linter.all false
set_option maxRecDepth 100000
set_option autoImplicit false
/-! Z17: the law's def, as the end wants it. -/
namespace Zm
open PySem PySem.Spec PyProof.Rows L2
section
variable {P : Program} {w : World} {K : PySem.W.Frag} {mg : Str → Option Value} {base : Heap}
theorem fnG_mk {x qual : Str} {st : Stmt} {f : Addr} {fd : FuncData} {N ps : List Str} {k np ns : Nat} {body : MS} (F : Fun K x qual st f fd) (S : FnScope N ps (defScope st))
    (h : ∀ (cdv : Value) (A : Around) (out : List PySem.Env) (s : Shared) (H : Hp) (E : XK), Room k (A.deeper (envOfC qual (defScope st) s.heap.objs.size f cdv)) → A.guards = some [] →
      SSs (cxG P w K mg base N qual (defScope st) f cdv A out s H E) (fun cls dd _ H => E cls dd H) (defBody st) body)
    (hN : N.length = ns := by rfl) (hps : ps.length = np := by rfl) (hnp : np ≤ ns := by decide) : FnG P w K mg base (k + 1) f fd ps (spF K mg (mkFn np ns body)) := by
  obtain ⟨oc, od, kV, doc, pm, an, cdv, ct, osl, rfl, lk, hcd⟩ := F.ex
  exact fnG_of lk hcd S (fun vs H Q E q => by rw [spF_len mkFn_ar q, hps]) fun A out s H vs Q E hr hg q => ⟨_, h cdv A out s H E hr hg, body_of hN hnp q⟩
end
end Zm
set_option Elab.async false
set_option linter.all false
set_option maxRecDepth 100000
set_option autoImplicit false
/-! Z18: xs[::-1] of lists and tuples. -/
namespace Zm
open PySem PySem.Spec PyProof.Rows L2 HT
section
variable {prog : Program} {w : World} {A : Around} {E : Value → Shared → Prop} {s : Shared}
end
section
variable {X : Cx}
end
end Zm
set_option Elab.async false
set_option linter.all false
set_option maxRecDepth 100000
set_option autoImplicit false
/-! Z19: name op= e of numbers. -/
namespace Zm
open PySem PySem.Spec PyProof.Rows L2
section
variable {K : PySem.W.Frag} {mg : Str → Option Value} {W : WX} {σ : L2.St} {H : Hp} {D : Ends} {i : Nat} {m : M} {f : Int → Int → Int}
end
section
variable {X : Cx} {W : WX} {e : Expr} {m : M} {x : Str} {pos pos' : Pos}
end
end Zm
set_option Elab.async false
set_option linter.all false
set_option maxRecDepth 100000
set_option maxHeartbeats 4000000
set_option autoImplicit false
/-! Z20: a tuple times one; x in a list of data. -/
namespace Zm
open PySem PySem.Spec PyProof.Rows L2
def gMulT : Sto → List D → Option D := fun s ds => match ds with
  | [.tup xs, .int k] => if k = 1 then some (.tup xs) else gMul s ds
  | _ => gMul s ds
end Zm
set_option Elab.async false
set_option linter.all false
set_option maxRecDepth 100000
set_option autoImplicit false
/-! Z21: calls of defs by keywords alone. -/
namespace Zm
open PySem PySem.Spec PyProof.Rows L2
def sw {α : Type} : Nat → List α → List α
  | 0, a :: b :: t => b :: a :: t
  | n + 1, a :: t => a :: sw n t
  | _, l => l
def sws {α : Type} : List Nat → List α → List α
  | [], l => l
  | n :: p, l => sws p (sw n l)
section
variable {K : PySem.W.Frag} {mg : Str → Option Value} {H : Hp} {ρ : List Addr}
theorem Reps.sw : ∀ {n : Nat} {ds : List D} {vs : List V} {a f : Cnt}, Reps K mg H ρ ds vs a f → Reps K mg H ρ (sw n ds) (sw n vs) a f
  | 0, _, _, _, _, .nil h1 h2 => .nil h1 h2
  | 0, _, _, _, _, .cons r (.nil h1 h2) e1 e2 => .cons r (.nil h1 h2) e1 e2
  | 0, _, _, a, f, .cons (a := a1) (f := f1) (a' := a2) (f' := f2) r (.cons (a := a3) (f := f3) (a' := a4) (f' := f4) r2 t g1 g2) e1 e2 => by
    refine .cons r2 (.cons (A := fun x => a1 x + a4 x) (F := fun x => f1 x + f4 x) r t (fun _ => rfl) fun _ => rfl) ?_ ?_
    · intro x; rw [e1, g1]; omega
    · intro x; rw [e2, g2]; omega
  | n + 1, _, _, _, _, .nil h1 h2 => .nil h1 h2
  | n + 1, _, _, _, _, .cons r t e1 e2 => .cons r (Reps.sw (n := n) t) e1 e2
theorem Reps.sws : ∀ {p : List Nat} {ds : List D} {vs : List V} {a f : Cnt}, Reps K mg H ρ ds vs a f → Reps K mg H ρ (sws p ds) (sws p vs) a f
  | [], _, _, _, _, h => h
  | _ :: p, _, _, _, _, h => Reps.sws (p := p) h.sw
end
theorem vals_sw {n : Nat} {vs : List V} {us : List Value} (h : Vals vs us) : Vals (sw n vs) (sw n us) := by
  induction n generalizing vs us with
  | zero =>
    cases h with
    | nil => exact .nil
    | cons r t =>
      cases t with
      | nil => exact .cons r .nil
      | cons r2 t2 => exact .cons r2 (.cons r t2)
  | succ n ih =>
    cases h with
    | nil => exact .nil
    | cons r t => exact .cons r (ih t)
theorem vals_sws {p : List Nat} {vs : List V} {us : List Value} (h : Vals vs us) : Vals (sws p vs) (sws p us) := by
  induction p generalizing vs us with
  | nil => exact h
  | cons n p ih => exact ih (vals_sw h)
/-- a def of the text keeps its machine's promise, called by keywords ks, in the order that p puts right -/
structure FnK (P : Program) (w : World) (K : PySem.W.Frag) (mg : Str → Option Value) (base : Heap) (k : Nat) (x : Str) (ps ks : List Str) (p : List Nat) (m : Fn) : Prop where
  ex : ∃ f fd, mg x = some (.ref f) ∧ PySem.W.keepIn K (.ref f) = true ∧ (∀ (s : Shared) (ws : List Value), ws.length = ps.length → BindsTo s fd ⟨[], ks.zip ws⟩ (ps.zip (sws p ws))) ∧ FnG P w K mg base k f fd ps (spF K mg m)
theorem fnK_mk {P : Program} {w : World} {K : PySem.W.Frag} {mg : Str → Option Value} {base : Heap} {k : Nat} {x qual : Str} {ps : List Str} {m : Fn} {st : Stmt} {f : Addr} {fd : FuncData} (M : FnM P w K mg base k x ps m) (F : Fun K x qual st f fd) (hm : mg x = some (.ref f)) (ks : List Str) (p : List Nat)
    (h : ∀ (kV doc pm : Value) (an : Option Addr) (cdv ct : Value) (ws : List Value), ws.length = ps.length → bindArgs (PySem.W.fnOf x qual (defArgs st) (defBody st) (defScope st) .none kV doc pm an cdv ct) ⟨[], ks.zip ws⟩ = pure (ps.zip (sws p ws))) : FnK P w K mg base k x ps ks p m := by
  obtain ⟨f', fd', a, b, c, d, oc', od', osl', lk'⟩ := M.ex
  rw [hm] at a
  cases a
  obtain ⟨oc, od, kV, doc, pm, an, cdv, ct, osl, e, lk, hcd⟩ := F.ex
  rw [lk] at lk'
  cases lk'
  refine ⟨f, fd, hm, b, fun s ws hl => ?_, d⟩
  rw [e]
  exact BindsTo.of_eq (h kV doc pm an cdv ct ws hl)
@[simp] def mCallK (f : Fn) (p : List Nat) (ms : List M) : M := fun σ s => (mArgs ms σ s).bind fun ds s1 => f (sws p ds) s1
section
variable {K : PySem.W.Frag} {mg : Str → Option Value} {W : WX} {σ : L2.St} {H : Hp}
theorem rE_callK {Q : VK} {fn : Fn} {p : List Nat} {ms : List M} (h : rE K mg W (mCallK fn p ms) σ H Q) : rA K mg W (mArgs ms) σ H fun vs H1 => spF K mg fn (sws p vs) H1 Q (WE W σ) := by
  obtain ⟨σm, s, ρ, A, F, rel, h⟩ := h
  refine ⟨σm, s, ρ, A, F, rel, ?_⟩
  unfold mCallK at h
  cases e : mArgs ms σm s with
  | bad => rw [e] at h; exact h
  | ex x s1 => rw [e] at h; exact h
  | ok ds s1 =>
    rw [e, Zm.R.bind_ok] at h
    intro vs H1 ρ1 a f fr wd rp g
    refine ⟨sws p ds, s1, ρ1, a, f, wd, rp.sws, g.sp, ?_⟩
    cases e2 : fn (sws p ds) s1 with
    | bad => rw [e2] at h; exact h
    | ex x s2 =>
      rw [e2] at h
      exact fun cls dd H2 ρ2 fr2 wd2 rx => h cls dd H2 ρ2 (fr.trans fr2 fun x z => .inr ((g x).2.1 z).2) wd2 rx
    | ok d s2 =>
      rw [e2] at h
      exact fun v H2 ρ2 a' f' fr2 wd2 rp2 o => h v H2 ρ2 a' f' (fr.trans fr2 fun x z => .inr ((g x).2.1 z).2) wd2 rp2 (g.out fr o)
end
section
variable {X : Cx} {k : Nat} {f : Addr} {fd : FuncData} {ps ks : List Str} {sp : Sp} {E : L2.St → XK} {q : List Nat} {t : TA} {kws : List Keyword} {x : Str} {p pos : Pos}
theorem sw_len {α : Type} : ∀ (n : Nat) (l : List α), (sw n l).length = l.length
  | 0, [] => rfl
  | 0, [_] => rfl
  | 0, _ :: _ :: _ => rfl
  | _ + 1, [] => rfl
  | n + 1, _ :: t => congrArg (· + 1) (sw_len n t)
theorem sws_len {α : Type} : ∀ (p : List Nat) (l : List α), (sws p l).length = l.length
  | [], _ => rfl
  | n :: p, l => (sws_len p (sw n l)).trans (sw_len n l)
theorem run_fnKw {pins : List (Addr × Obj)} {σ : L2.St} {H : Hp} {s : Shared} {Q : VK} {ws : List Value} {zs : List V} (F : FnG X.prog X.w X.K X.mg X.base k f fd ps sp) (hr : Room k X.A) (hg : X.A.guards = some [])
    (hb : ∀ (s : Shared) (ws : List Value), ws.length = ps.length → BindsTo s fd ⟨[], ks.zip ws⟩ (ps.zip (sws q ws))) (hx : PassesAt (L2N.CX X.prog X.w) X σ (E σ)) (I : Inv X pins σ H s) (r : Vals zs ws) (h : sp (sws q zs) H Q (E σ)) :
    wpAny (model X.prog X.w) X.A (call (.ref f) [] (ks.zip ws)) (EP X pins σ Q) X.xe s := by
  have nus : ws.length = ps.length := by rw [← r.length, ← sws_len q zs]; exact F.len _ _ _ _ h
  refine wpAny_call (codeAny_mono (F.run X.A X.stack s H ⟨[], ks.zip ws⟩ (sws q ws) (sws q zs) Q (E σ) hr hg I.env0 (hb s ws nus) (vals_sws r) h) ?_)
  intro res s' hq
  match res, hq with
  | .error e, hq => exact hx pins H s e s' I hq
  | .ok (.ret u), hq => exact I.after hq
  | .ok .next, hq => exact hq.elim
  | .ok .brk, hq => exact hq.elim
  | .ok .cont, hq => exact hq.elim
def tCallKw (q : List Nat) (sp : Sp) (E : L2.St → XK) (tk : TA) : TE := fun σ H Q => tk σ H fun zs H2 => sp (sws q zs) H2 Q (E σ)
theorem pe_callKw (F : FnG X.prog X.w X.K X.mg X.base k f fd ps sp) (hr : Room k X.A) (hgd : X.A.guards = some []) (hg : Gl X x) (hm : X.mg x = some (.ref f)) (hk : PySem.W.keepIn X.K (.ref f) = true)
    (hb : ∀ (s : Shared) (ws : List Value), ws.length = ps.length → BindsTo s fd ⟨[], ks.zip ws⟩ (ps.zip (sws q ws)))
    (hx : ∀ σ, PassesAt (L2N.CX X.prog X.w) X σ (E σ)) (hkw : PK X kws t) (hall : (backToKw pos (keywordEach kws X.env)).all (·.1.isSome) = true := by rfl) (hks : (backToKw pos (keywordEach kws X.env)).filterMap (·.1) = ks := by rfl) (hdb : (x == ("__debug__" : Str)) = false := by decide)
    (hpl : ((backTo pos (starEach [] X.env)).any (·.1) || (backToKw pos (keywordEach kws X.env)).any (·.1.isNone)) = false := by rfl) :
    PE X (.Call (.Name x p) [] kws pos) (tCallKw q sp E t) := by
  refine ⟨fun pins s σ H Q I h => ?_⟩
  refine wpAny_Call_Name_kw (ld_glob I hg hm ?_ hdb)
  refine PySem.W.callWith_KW0 (h₀ := X.base) I.ok.mod.kin hk hall ?_ hpl
  refine thn (hkw.run pos pins s σ H _ I h) fun ws s2 ⟨zs, H2, I2, rz, q2⟩ => ⟨I2.kIn, ?_⟩
  rw [hks]
  exact run_fnKw F hr hgd hb (hx σ) I2 rz q2
end
/-- keywords as arguments of machines -/
def SKw (X : Cx) (W : WX) (kws : List Keyword) (ms : List M) : Prop := PK X kws (rA X.K X.mg W (mArgs ms))
section
variable {X : Cx} {W : WX} {e : Expr} {m : M} {ms : List M} {kws : List Keyword} {nm : Option Str} {kpos : Pos} {k : Nat} {x : Str} {ps ks : List Str} {q : List Nat} {fn : Fn} {p pos : Pos}
theorem PK.imp {t t' : TA} (h : PK X kws t) (i : ∀ σ H Q, t' σ H Q → t σ H Q) : PK X kws t' := ⟨fun pos pins s σ H Q I q => h.run pos pins s σ H Q I (i σ H Q q)⟩
theorem sk_nil : SKw X W [] [] := PK.imp pk_nil fun σ H Q h => rA_nil h
theorem sk_cons (he : SE X W e m) (hs : SKw X W kws ms) : SKw X W (⟨nm, e, kpos⟩ :: kws) (m :: ms) := PK.imp (pk_cons he hs) fun σ H Q h => rA_cons h
theorem s_callK (F : FnK X.prog X.w X.K X.mg X.base k x ps ks q fn) (hr : Room k X.A) (hgd : X.A.guards = some []) (tk : L2N.Takes X W) (ha : SKw X W kws ms) (hg : Gl X x := by rfl)
    (hall : (backToKw pos (keywordEach kws X.env)).all (·.1.isSome) = true := by rfl) (hks : (backToKw pos (keywordEach kws X.env)).filterMap (·.1) = ks := by rfl) (hdb : (x == ("__debug__" : Str)) = false := by decide)
    (hpl : ((backTo pos (starEach [] X.env)).any (·.1) || (backToKw pos (keywordEach kws X.env)).any (·.1.isNone)) = false := by rfl) : SE X W (.Call (.Name x p) [] kws pos) (mCallK fn q ms) := by
  obtain ⟨f, fd, a, b, c, d⟩ := F.ex
  exact PE.imp (pe_callKw d hr hgd hg a b c (E := WE W) (fun σ => L2N.passAt tk σ) ha hall hks hdb hpl) fun σ H Q h => rE_callK h
end
end Zm
set_option Elab.async false
set_option linter.all false
set_option maxRecDepth 100000
set_option autoImplicit false
/-! Z22: dicts: made, read, written. -/
namespace Zm
open PySem PySem.Spec PyProof.Rows L2
def dK : D → Option Key
  | .int i => some (.inl i)
  | .str z => some (.inr z)
  | _ => none
def dKs : List D → Option (List Key)
  | [] => some []
  | x :: xs => match dK x, dKs xs with
    | some a, some b => some (a :: b)
    | _, _ => none
def dKT : D → Option (List Key)
  | .tup xs => dKs xs
  | _ => none
section
variable {κ : Type} [DecidableEq κ]
def lookG (o : D → Option κ) : List D → List D → κ → Option D
  | k :: ks, v :: vs, q => if o k = some q then some v else lookG o ks vs q
  | _, _, _ => none
def replG (o : D → Option κ) : List D → List D → κ → D → List D
  | k :: ks, w :: vs, q, v => (if o k = some q then v else w) :: replG o ks vs q v
  | _, vs, _, _ => vs
def putG (o : D → Option κ) (ks vs : List D) (kd : D) (q : κ) (v : D) : List D × List D :=
  if (lookG o ks vs q).isSome = true then (ks, replG o ks vs q v) else (ks ++ [kd], vs ++ [v])
end
def gLook (t : Bool) (ks vs : List D) (k : D) : Option (Option D) := match t with
  | false => (dK k).map (lookG dK ks vs)
  | true => (dKT k).map (lookG dKT ks vs)
def gPut (t : Bool) (ks vs : List D) (k v : D) : Option (List D × List D) := match t with
  | false => (dK k).map fun q => putG dK ks vs k q v
  | true => (dKT k).map fun q => putG dKT ks vs k q v
section
variable {K : PySem.W.Frag} {mg : Str → Option Value} {H H1 : Hp} {ρ : List Addr} {κ : Type} [DecidableEq κ] {o : D → Option κ} {to : κ → D}
theorem Reps.z2 {d : D} {ds : List D} {v : V} {vs : List V} (h : Reps K mg H ρ (d :: ds) (v :: vs) c0 c0) : Rep K mg H ρ d v c0 c0 ∧ Reps K mg H ρ ds vs c0 c0 := by
  cases h with
  | cons r t e1 e2 =>
    exact ⟨r.cong (fun x => by have := e1 x; have z : c0 x = 0 := rfl; omega) (fun x => by have := e2 x; have z : c0 x = 0 := rfl; omega),
      t.cong (fun x => by have := e1 x; have z : c0 x = 0 := rfl; omega) (fun x => by have := e2 x; have z : c0 x = 0 := rfl; omega)⟩
theorem Reps.c2 {d : D} {ds : List D} {v : V} {vs : List V} (r : Rep K mg H ρ d v c0 c0) (t : Reps K mg H ρ ds vs c0 c0) : Reps K mg H ρ (d :: ds) (v :: vs) c0 c0 := .cons r t (fun _ => rfl) (fun _ => rfl)
theorem inv_dic {t o : Bool} {ks vs : List D} {v : V} {a f : Cnt} (h : Rep K mg H ρ (.dic o t ks vs) v a f) : ∃ p ws, v = .ref p ∧ DicRd H t p ks ws ∧ plains vs = true ∧ Reps K mg H ρ vs ws c0 c0 := by
  cases h with
  | dicO h hp pl t e1 e2 => exact ⟨_, _, rfl, h.rd, pl, t⟩
  | dicF h hp pl t e1 e2 => exact ⟨_, _, rfl, h, pl, t⟩
end
/-! ### expressions -/
section
variable {K : PySem.W.Frag} {mg : Str → Option Value}
end
section
variable {X : Cx} {W : WX} {e f o i : Expr} {me mf mo mi : M} {pos apos cpos : Pos}
end
end Zm
set_option Elab.async false
set_option linter.all false
set_option maxRecDepth 100000
set_option autoImplicit false
/-! Z23: dicts written; walked by their keys. -/
namespace Zm
open PySem PySem.Spec PyProof.Rows L2
section
variable {X : Cx} {W : WX} {i o : Expr} {mi mo : M} {pos : Pos}
end
/-! ### d[k] = e -/
section
variable {K : PySem.W.Frag} {mg : Str → Option Value} {W : WX} {H H' H1 : Hp} {ρ ρ' ρ1 : List Addr} {σm : Env} {σ : L2.St} {s s' s1 : Sto} {A F : Cnt}
end
section
variable {X : Cx} {W : WX} {e ei : Expr} {m mi : M} {pos pos' spos : Pos} {x : Str}
end
/-! ### for k in d -/
def Dc (u : HO) : Prop := (∃ kvs, u = .dK kvs) ∨ ∃ kvs, u = .dT kvs
theorem DicV.dc {t : Bool} {ks : List D} {ws : List V} {u : HO} (h : DicV t ks ws u) : Dc u := by
  cases t with
  | false => obtain ⟨kvs, rfl, _⟩ := h; exact .inl ⟨_, rfl⟩
  | true => obtain ⟨kvs, rfl, _⟩ := h; exact .inr ⟨_, rfl⟩
section
variable {K : PySem.W.Frag} {mg : Str → Option Value} {H : Hp} {ρ : List Addr} {p : Addr} {u : HO} {od : Obj}
theorem lock_at (hu : H p = some u) (mu : Dc u) {x : Addr} {o : HO} (e : H x = some o) (h : ¬ Dc o) : upd H p (.frz od u) x = some o := by
  rw [upd_ne]
  · exact e
  · intro z
    subst z
    rw [hu] at e
    cases e
    exact h mu
theorem unlock_at (hu : H p = some (.frz od u)) {x : Addr} {o : HO} (e : H x = some o) (h : ∀ o' u', Dc u' → o ≠ .frz o' u') (mu : Dc u) : upd H p u x = some o := by
  rw [upd_ne]
  · exact e
  · intro z
    subst z
    rw [hu] at e
    cases e
    exact h _ _ mu rfl
theorem rdU_lock (hu : H p = some u) (mu : Dc u) {x : Addr} {v : HO} (h : Rd H x v) : Rd (upd H p (.frz od u)) x v := by
  by_cases z : x = p
  · subst z
    rcases h with e | ⟨o, e⟩
    · rw [hu] at e; cases e
      exact .inr ⟨od, upd_same⟩
    · rw [hu] at e; cases e
      rcases mu with ⟨_, z⟩ | ⟨_, z⟩ <;> cases z
  · rcases h with e | ⟨o, e⟩
    · exact .inl (by rw [upd_ne z]; exact e)
    · exact .inr ⟨o, by rw [upd_ne z]; exact e⟩
theorem rdU_unlock (hu : H p = some (.frz od u)) {x : Addr} {v : HO} (h : Rd H x v) (dv : Dc v) : Rd (upd H p u) x v := by
  by_cases z : x = p
  · subst z
    rcases h with e | ⟨o, e⟩
    · rw [hu] at e; cases e
      rcases dv with ⟨_, z⟩ | ⟨_, z⟩ <;> cases z
    · rw [hu] at e; cases e
      exact .inl upd_same
  · rcases h with e | ⟨o, e⟩
    · exact .inl (by rw [upd_ne z]; exact e)
    · exact .inr ⟨o, by rw [upd_ne z]; exact e⟩
theorem sqR_lock (hu : H p = some u) (mu : Dc u) {x : Addr} {vs : List V} (h : SqR K H x vs) : SqR K (upd H p (.frz od u)) x vs := by
  rcases h with ⟨o, e⟩ | e
  · exact .inl ⟨o, lock_at hu mu e (fun z => by rcases z with ⟨_, z⟩ | ⟨_, z⟩ <;> cases z)⟩
  · exact .inr e
theorem sqR_unlock (hu : H p = some (.frz od u)) (mu : Dc u) {x : Addr} {vs : List V} (h : SqR K H x vs) : SqR K (upd H p u) x vs := by
  rcases h with ⟨o, e⟩ | e
  · exact .inl ⟨o, unlock_at hu e (fun o' u' d z => by cases z; rcases d with ⟨_, z⟩ | ⟨_, z⟩ <;> cases z) mu⟩
  · exact .inr e
theorem xc_lock {c : Str} {m : Option Int} {q : Addr} (hu : H p = some u) (mu : Dc u) (h : XcAt mg H c m q) : XcAt mg (upd H p (.frz od u)) c m q := by
  cases m with
  | some a => exact h
  | none =>
    obtain ⟨C, e1, e2⟩ := h
    exact ⟨C, e1, lock_at hu mu e2 (fun z => by rcases z with ⟨_, z⟩ | ⟨_, z⟩ <;> cases z)⟩
theorem xc_unlock {c : Str} {m : Option Int} {q : Addr} (hu : H p = some (.frz od u)) (mu : Dc u) (h : XcAt mg H c m q) : XcAt mg (upd H p u) c m q := by
  cases m with
  | some a => exact h
  | none =>
    obtain ⟨C, e1, e2⟩ := h
    exact ⟨C, e1, unlock_at hu e2 (fun _ _ _ z => by cases z) mu⟩
mutual
theorem Rep.lock (hu : H p = some u) (mu : Dc u) : ∀ {d : D} {v : V} {A F : Cnt}, Rep K mg H ρ d v A F → A p = 0 → Rep K mg (upd H p (.frz od u)) ρ d v A F
  | _, _, _, _, .non a f, _ => .non a f
  | _, _, _, _, .bl a f, _ => .bl a f
  | _, _, _, _, .int a f, _ => .int a f
  | _, _, _, _, .str a f, _ => .str a f
  | _, _, _, _, .tup h t, hA => .tup (lock_at hu mu h (fun z => by rcases z with ⟨_, z⟩ | ⟨_, z⟩ <;> cases z)) (Reps.lock hu mu t hA)
  | _, _, _, _, .own h hp t e, hA => .own (lock_at hu mu h (fun z => by rcases z with ⟨_, z⟩ | ⟨_, z⟩ <;> cases z)) hp (Reps.lock hu mu t (by have := e p; omega)) e
  | _, _, _, _, .frz h hp t e, hA => .frz (lock_at hu mu h (fun z => by rcases z with ⟨_, z⟩ | ⟨_, z⟩ <;> cases z)) hp (Reps.lock hu mu t hA) e
  | _, _, _, _, .ro h a f, _ => .ro (sqR_lock hu mu h) a f
  | _, _, _, _, .box h a f, _ => .box h a f
  | _, _, _, _, .fn h k a f, _ => .fn h k a f
  | _, _, _, _, .ty a f, _ => .ty a f
  | _, _, _, _, .exc h a f, _ => .exc (xc_lock hu mu h) a f
  | _, _, _, _, .dicO (p := q) h hp pl t e1 e2, hA => .dicO (by
      obtain ⟨w, hw, dv⟩ := h
      refine ⟨w, ?_, dv⟩
      rw [upd_ne]
      · exact hw
      · intro z
        subst z
        have := e1 q
        rw [cp_same] at this
        omega) hp pl (Reps.lock hu mu t rfl) e1 e2
  | _, _, _, _, .dicF h hp pl t e1 e2, hA => .dicF (let ⟨w, hw, dv⟩ := h; ⟨w, rdU_lock hu mu hw, dv⟩) hp pl (Reps.lock hu mu t rfl) e1 e2
  | _, _, _, _, .dilO (p := q) h hp pl t e1 e2, hA => .dilO (by
      obtain ⟨w, hw, dv⟩ := h
      refine ⟨w, ?_, dv⟩
      rw [upd_ne]
      · exact hw
      · intro z
        subst z
        have := e1 q
        rw [cp_same] at this
        omega) hp pl (Reps.lock hu mu t rfl) e1 e2
  | _, _, _, _, .dilF h hp pl t e1 e2, hA => .dilF (let ⟨w, hw, dv⟩ := h; ⟨w, rdU_lock hu mu hw, dv⟩) hp pl (Reps.lock hu mu t rfl) e1 e2
theorem Reps.lock (hu : H p = some u) (mu : Dc u) : ∀ {d : List D} {v : List V} {A F : Cnt}, Reps K mg H ρ d v A F → A p = 0 → Reps K mg (upd H p (.frz od u)) ρ d v A F
  | _, _, _, _, .nil a f, _ => .nil a f
  | _, _, _, _, .cons h t e1 e2, hA => .cons (Rep.lock hu mu h (by have := e1 p; omega)) (Reps.lock hu mu t (by have := e1 p; omega)) e1 e2
end
mutual
theorem Rep.unlock (hu : H p = some (.frz od u)) (mu : Dc u) : ∀ {d : D} {v : V} {A F : Cnt}, Rep K mg H ρ d v A F → Rep K mg (upd H p u) ρ d v A F
  | _, _, _, _, .non a f => .non a f
  | _, _, _, _, .bl a f => .bl a f
  | _, _, _, _, .int a f => .int a f
  | _, _, _, _, .str a f => .str a f
  | _, _, _, _, .tup h t => .tup (unlock_at hu h (fun _ _ _ z => by cases z) mu) (Reps.unlock hu mu t)
  | _, _, _, _, .own h hp t e => .own (unlock_at hu h (fun _ _ _ z => by cases z) mu) hp (Reps.unlock hu mu t) e
  | _, _, _, _, .frz h hp t e => .frz (unlock_at hu h (fun _ _ _ z => by cases z) mu) hp (Reps.unlock hu mu t) e
  | _, _, _, _, .ro h a f => .ro (sqR_unlock hu mu h) a f
  | _, _, _, _, .box h a f => .box h a f
  | _, _, _, _, .fn h k a f => .fn h k a f
  | _, _, _, _, .ty a f => .ty a f
  | _, _, _, _, .exc h a f => .exc (xc_unlock hu mu h) a f
  | _, _, _, _, .dicO (p := q) h hp pl t e1 e2 => .dicO (by
      obtain ⟨w, hw, dv⟩ := h
      refine ⟨w, unlock_at hu hw (fun _ _ _ z => ?_) mu, dv⟩
      rcases dv.dc with ⟨_, e⟩ | ⟨_, e⟩ <;> rw [e] at z <;> cases z) hp pl (Reps.unlock hu mu t) e1 e2
  | _, _, _, _, .dicF h hp pl t e1 e2 => .dicF (let ⟨w, hw, dv⟩ := h; ⟨w, rdU_unlock hu hw dv.dc, dv⟩) hp pl (Reps.unlock hu mu t) e1 e2
  | _, _, _, _, .dilO (p := q) h hp pl t e1 e2 => .dilO (by
      obtain ⟨w, hw, dv⟩ := h
      refine ⟨w, unlock_at hu hw (fun _ _ _ z => ?_) mu, dv⟩
      rcases dv.dc with ⟨_, e⟩ | ⟨_, e⟩ <;> rw [e] at z <;> cases z) hp pl (Reps.unlock hu mu t) e1 e2
  | _, _, _, _, .dilF h hp pl t e1 e2 => .dilF (let ⟨w, hw, dv⟩ := h; ⟨w, rdU_unlock hu hw dv.dc, dv⟩) hp pl (Reps.unlock hu mu t) e1 e2
theorem Reps.unlock (hu : H p = some (.frz od u)) (mu : Dc u) : ∀ {d : List D} {v : List V} {A F : Cnt}, Reps K mg H ρ d v A F → Reps K mg (upd H p u) ρ d v A F
  | _, _, _, _, .nil a f => .nil a f
  | _, _, _, _, .cons h t e1 e2 => .cons (Rep.unlock hu mu h) (Reps.unlock hu mu t) e1 e2
end
end
section
variable {K : PySem.W.Frag} {mg : Str → Option Value} {H H' : Hp} {ρ ρ' : List Addr} {p : Addr} {u : HO} {od : Obj} {A F A0 F0 : Cnt}
end
section
variable {X : Cx} {W : WX} {tge : Expr} {tg : Tg} {body : MS} {ss : List Stmt} {pos pos' : Pos} {x : Str}
end
end Zm
set_option Elab.async false
set_option linter.all false
set_option maxRecDepth 100000
set_option autoImplicit false
/-! Z24: int(..), xs.index(..), xs[i] op= e, defs that call themselves. -/
namespace Zm
open PySem PySem.Spec PyProof.Rows L2
def toI : List D → Option (List Int)
  | [] => some []
  | .int i :: ds => (toI ds).map (i :: ·)
  | _ :: _ => none
section
variable {K : PySem.W.Frag} {mg : Str → Option Value}
variable {H : Hp} {ρ : List Addr}
end
section
variable {X : Cx} {W : WX} {o e : Expr} {mo me : M} {apos cpos : Pos}
end
/-! ### xs[i] op= e -/
section
variable {K : PySem.W.Frag} {mg : Str → Option Value} {W : WX} {σ : L2.St} {H : Hp} {D : Ends} {i : Nat} {mi m : M} {f : Int → Int → Int}
end
section
variable {X : Cx} {W : WX} {e ei : Expr} {m mi : M} {x : Str} {pos pos' tpos : Pos}
end
/-! ### defs that call themselves -/
def badF : Fn := fun _ _ => .bad
theorem fnM_bad {P : Program} {w : World} {K : PySem.W.Frag} {mg : Str → Option Value} {base : Heap} {x qual : Str} {st : Stmt} {f : Addr} {fd : FuncData} {ps : List Str} {k : Nat} (F : Fun K x qual st f fd) (hm : mg x = some (.ref f)) (hb : Binds K fd ps []) :
    FnM P w K mg base k x ps badF := by
  refine ⟨f, fd, hm, F.kp, hb, ⟨fun vs H Q E h => ?_, fun A out s H args us vs Q E _ _ _ _ _ h => ?_⟩, ?_⟩
  · obtain ⟨_, _, _, _, _, _, _, _, h⟩ := h; exact h.elim
  · obtain ⟨_, _, _, _, _, _, _, _, h⟩ := h; exact h.elim
  · obtain ⟨oc, od, kV, doc, pm, an, cdv, ct, osl, rfl, lk, hcd⟩ := F.ex
    exact ⟨oc, od, osl, lk⟩
end Zm
set_option Elab.async false
set_option linter.all false
set_option maxRecDepth 100000
set_option autoImplicit false
/-! Z25: == and != of dicts whose keys are tuples. -/
namespace Dq
open PySem PySem.W PySem.Calls PyProof.Rows PyProof.V PySem.Spec
section
variable {prog : Program} {w : World} {K : Type} [DecidableEq K] {knd : HeapKind prog w K} {A : Around} {E : Value → Shared → Prop} {s : Shared}
inductive Hits (A : Around) (s : Shared) (kb : List (K × Addr × Value)) : List (K × Addr × Value) → Bool → Prop
  | nil : Hits A s kb [] true
  | miss {k : K} {p : Addr × Value} {r : List (K × Addr × Value)} : atKey kb k = none → Hits A s kb ((k, p) :: r) false
  | hit {k : K} {p q : Addr × Value} {r : List (K × Addr × Value)} {e b : Bool} : atKey kb k = some q → SeqAt.EqAt A s p.2 q.2 e → Hits A s kb r b → Hits A s kb ((k, p) :: r) (e && b)
end
end Dq
namespace Zm
open PySem PySem.Spec PyProof.Rows L2
section
variable {X : Cx}
end
section
variable {K : PySem.W.Frag} {mg : Str → Option Value} {H : Hp} {ρ : List Addr}
end
end Zm
set_option Elab.async false
set_option linter.all false
set_option maxRecDepth 100000
set_option autoImplicit false
/-! Z26: many names from one value that holds no frozen list: nothing is frozen. -/
namespace Zm
open PySem PySem.Spec PyProof.Rows L2
def mUnpN (tg : Tg) (m : M) : MS := fun σ s => (m σ s).to σ fun d s' => if noF d = true then (match tg.bind (fz d) σ with
  | some σ' => .nx σ' s'
  | none => .bad) else .bad
def mUnpD (msk : List Bool) (tg : Tg) (m : M) : MS := fun σ s => (m σ s).to σ fun d s' => if noF d = true then (match tg.bind (fz d) σ with
  | some σ' => .nx σ' s'
  | none => .bad) else mUnp msk tg m σ s
theorem unpD_or {msk : List Bool} {tg : Tg} {m : M} (σ : Env) (s : Sto) : mUnpD msk tg m σ s = mUnpN tg m σ s ∨ mUnpD msk tg m σ s = mUnp msk tg m σ s := by
  unfold mUnpD mUnpN
  cases m σ s with
  | bad => exact .inl rfl
  | ex x s1 => exact .inl rfl
  | ok d s1 =>
    simp only [R.to_ok]
    by_cases z : noF d = true
    · left; simp [z]
    · right; simp [z]
section
variable {K : PySem.W.Frag} {mg : Str → Option Value} {W : WX} {H : Hp} {σ : L2.St} {D : Ends} {msk : List Bool} {tg : Tg} {m : M}
theorem unpN_end (h : rS K mg W (mUnpN tg m) D σ H) : rE K mg W m σ H fun x H1 => rG K mg tg x σ H1 D.nx := by
  obtain ⟨σm, s, ρ, A, F, rel, h⟩ := h
  refine rE_of_to rel h fun d s1 v H1 ρ1 a f fr wd rp g h => ?_
  split at h
  · rename_i hn
    split at h
    · rename_i σ1 hb
      obtain ⟨f', rp', qf⟩ := rp.fz
      have f0 := rp.noF hn
      have ev := rel.env.there
      have key : ∀ x, 1 ≤ f' x → H x = none := fun x h => by
        have := qf x h
        have z := f0 x
        exact ((g x).2.1 (by omega)).2
      refine ⟨σm, s1, ρ1, A, F, fz d, f', rel.next fr wd, rp', fun x z => ?_, σ1, hb, fun σ' A' F' rel' le ch => h σ' H1 ρ1 A' F' fr.up rel' fun x => ?_⟩
      · by_cases w : 1 ≤ A x
        · obtain ⟨⟨o, ho⟩, _⟩ := ev x (by omega)
          rw [key x z] at ho; cases ho
        · omega
      · have l := le x
        refine ⟨fun y => .inl (by omega), fun y => ?_⟩
        rcases l.2 y with w | w
        · exact .inr (.inl w)
        · exact .inr (.inr (key x w))
    · exact h.elim
  · exact h.elim
end
section
variable {X : Cx} {W : WX} {e tge : Expr} {m : M} {tg : Tg} {pos : Pos}
theorem ss_unpD (msk : List Bool) (he : SE X W e m) (hg : SG X tge tg) (hs : swapsWithSole [tge] e pos.line X.env = pure false := by rfl) (hw : swappedStores [tge] e X.env = pure none := by rfl)
    (h1 : (assignEach [tge] X.env).map (·.2) = [assign tge X.env] := by rfl) : SS X W (.Assign [tge] e pos) (mUnpD msk tg m) :=
  PS.imp (ps_asg he hg hs hw h1) fun D σ H h => rS_or h unpD_or unpN_end unp_end
end
end Zm
set_option Elab.async false
set_option linter.all false
set_option maxRecDepth 100000
set_option autoImplicit false
/-! Z27: x = y[k] if t else e: only what lies within y is frozen; lists within lists written. -/
namespace Zm
open PySem PySem.Spec PyProof.Rows L2
section
variable {K : PySem.W.Frag} {mg : Str → Option Value} {W : WX} {H H' H1 : Hp} {ρ ρ' ρ1 : List Addr} {σm : Env} {σ : L2.St} {s s' s1 : Sto} {A F : Cnt}
end
theorem atI_fz {xs : List D} {k : Int} {d : D} (h : L2.atI xs k = some d) : L2.atI (fzs xs) k = some (fz d) := by
  rw [fzs_eq]
  unfold L2.atI at h ⊢
  rw [Option.bind_eq_some_iff] at h ⊢
  obtain ⟨j, e1, e2⟩ := h
  exact ⟨j, by rw [List.length_map]; exact e1, by rw [List.getElem?_map, e2]; rfl⟩
section
variable {K : PySem.W.Frag} {mg : Str → Option Value} {W : WX} {H : Hp} {σ : L2.St} {D : Ends} {i j : Nat} {mi m2 : M} {t : T} {msk : List Bool}
end
section
variable {X : Cx} {W : WX} {c e2 ei : Expr} {t : T} {mi m2 : M} {pos pos' ipos py p2 : Pos} {x y : Str}
end
end Zm
set_option Elab.async false
set_option linter.all false
set_option maxRecDepth 100000
set_option autoImplicit false
/-! Z28: lists within an owned list written: x[j][k] = e, x[j].append(e). -/
namespace Zm
open PySem PySem.Spec PyProof.Rows L2
section
variable {K : PySem.W.Frag} {mg : Str → Option Value} {W : WX} {H H' H1 : Hp} {ρ ρ' ρ1 : List Addr} {σm : Env} {σ : L2.St} {s s' s1 : Sto} {A F : Cnt}
theorem Reps.move {ar fr : Cnt} (T : ∀ d v a f, Rep K mg H ρ d v a f → (∀ x, a x ≤ ar x ∧ f x ≤ fr x) → Rep K mg H' ρ' d v a f) : ∀ {ds : List D} {vs : List V} {A F : Cnt}, Reps K mg H ρ ds vs A F → (∀ x, A x ≤ ar x ∧ F x ≤ fr x) → Reps K mg H' ρ' ds vs A F
  | _, _, _, _, .nil a f, _ => .nil a f
  | _, _, _, _, .cons h t e1 e2, le => .cons (T _ _ _ _ h fun x => by have := le x; rw [e1, e2] at this; omega) (Reps.move T t fun x => by have := le x; rw [e1, e2] at this; omega) e1 e2
theorem Reps.at_put : ∀ {ds : List D} {vs : List V} {A F : Cnt} {j : Nat} {d : D}, Reps K mg H ρ ds vs A F → ds[j]? = some d →
    ∃ (v : V) (ad fd ar fr : Cnt), vs[j]? = some v ∧ Rep K mg H ρ d v ad fd ∧ (∀ x, A x = ad x + ar x ∧ F x = fd x + fr x) ∧
      ∀ (H' : Hp) (ρ' : List Addr), (∀ d v a f, Rep K mg H ρ d v a f → (∀ x, a x ≤ ar x ∧ f x ≤ fr x) → Rep K mg H' ρ' d v a f) → ∀ d' ad' fd', Rep K mg H' ρ' d' v ad' fd' → Reps K mg H' ρ' (ds.set j d') vs (fun x => ad' x + ar x) (fun x => fd' x + fr x)
  | _, _, _, _, j, _, .nil _ _, e => by simp at e
  | _, _, _, _, 0, _, .cons h t e1 e2, e => by
    simp at e; subst e
    exact ⟨_, _, _, _, _, rfl, h, fun x => ⟨e1 x, e2 x⟩, fun H' ρ' T d' ad' fd' r => .cons r (Reps.move T t fun x => ⟨Nat.le_refl _, Nat.le_refl _⟩) (fun _ => rfl) (fun _ => rfl)⟩
  | _, _, _, _, j + 1, _, .cons (a := a) (f := f) h t e1 e2, e => by
    obtain ⟨v, ad, fd, ar, fr, q1, q2, q3, q4⟩ := Reps.at_put t (j := j) (by simpa using e)
    refine ⟨v, ad, fd, fun x => a x + ar x, fun x => f x + fr x, by simpa using q1, q2, fun x => by have := q3 x; rw [e1, e2]; dsimp only; omega, fun H' ρ' T d' ad' fd' r => ?_⟩
    exact .cons (T _ _ _ _ h fun x => by dsimp only; constructor <;> omega) (q4 H' ρ' (fun d v a f h le => T d v a f h fun x => by have := le x; dsimp only; omega) d' ad' fd' r) (fun x => by dsimp only; omega) (fun x => by dsimp only; omega)
/-- a list within an owned list at a slot, to be written -/
theorem Rel.wr2 (rel : Rel K mg σm s σ H ρ A F) {i n : Nat} {xs ys : List D} (hi : σm[i]? = some (some (.lst true xs))) (hn : xs[n]? = some (.lst true ys)) :
    ∃ (p q : Addr) (vs ws : List V) (a2 f2 : Cnt), σ[i]? = some (some (.ref p)) ∧ H p = some (.lst vs) ∧ vs.length = xs.length ∧ vs[n]? = some (.ref q) ∧ H q = some (.lst ws) ∧ Reps K mg H ρ ys ws a2 f2 ∧
      ∀ (H1 : Hp) (ρ1 : List Addr) (s1 : Sto) (ys' : List D) (ws' : List V) (a' f' : Cnt), Fr c0 H H1 ρ ρ1 → Wd K mg ρ1 s1 H1 → Reps K mg H1 ρ1 ys' ws' a' f' → (∀ x, a' x ≤ a2 x ∧ f' x ≤ f2 x) →
        H1 p = some (.lst vs) ∧ H1 q = some (.lst ws) ∧ Fr A H (upd H1 q (.lst ws')) ρ ρ1 ∧ ∃ A' F', Rel K mg (σm.set i (some (.lst true (xs.set n (.lst true ys'))))) s1 σ (upd H1 q (.lst ws')) ρ1 A' F' ∧ ∀ x, A' x ≤ A x ∧ F' x ≤ F x := by
  obtain ⟨w, a0, f0, A2, F2, e1, rp0, e2, qq⟩ := rel.env.take hi
  cases rp0 with
  | own hp hnp t e =>
    rename_i p vs a1
    obtain ⟨v, ad, fd, ar, fr', h1, rd, h3, put⟩ := t.at_put hn
    cases rd with
    | own hq hnq ty ey =>
      rename_i q ws a2
      have hil : i < σm.length := (List.getElem?_eq_some_iff.mp hi).1
      refine ⟨p, q, vs, ws, a2, fd, e1, hp, t.length.symm, h1, hq, ty, fun H1 ρ1 s1 ys' ws' a' f' fr wd r' le => ?_⟩
      have cnt : ∀ x, A x = cp p x + cp q x + a2 x + ar x + A2 x ∧ F x = fd x + fr' x + F2 x := fun x => by
        have := qq x; have := h3 x; have := e x; have := ey x; omega
      have hAq : 1 ≤ A q := by have := (cnt q).1; rw [cp_same] at this; omega
      have keep : ∀ {b : Addr} {o : List V}, H b = some (.lst o) → b ∉ ρ → H1 b = some (.lst o) := fun {b o} hb nb => by
        rcases fr.keep b _ hb with z | ⟨_, z | z⟩
        · exact z
        · exact (nb z).elim
        · exact no0 z
      have hp1 := keep hp hnp
      have hq1 := keep hq hnq
      have hnp1 : p ∉ ρ1 := fr.nmem hp hnp
      have hnq1 : q ∉ ρ1 := fr.nmem hq hnq
      have fr1 : Fr (cp q) H1 (upd H1 q (.lst ws')) ρ1 ρ1 := by
        refine ⟨fun x o q' => ?_, fun x q' => ?_, [], by simp, by simp⟩
        · by_cases z : x = q
          · subst z
            rw [hq1] at q'; cases q'
            exact .inr ⟨trivial, .inr (by rw [cp_same]; omega)⟩
          · rw [upd_ne z]; exact .inl q'
        · by_cases z : x = q
          · subst z; rw [upd_same] at q'; cases q'
          · rw [upd_ne z] at q'; exact q'
      have out : ∀ x, 1 ≤ cp q x → cp p x = 0 ∧ a2 x = 0 ∧ fd x = 0 ∧ ar x = 0 ∧ fr' x = 0 ∧ A2 x = 0 ∧ F2 x = 0 := fun x hx => by
        have s0 := rel.sep x
        have c := cnt x
        have := s0.2 (by omega)
        omega
      have pq : p ≠ q := fun z => by
        have := (out q (by rw [cp_same]; omega)).1
        rw [z, cp_same] at this; omega
      refine ⟨hp1, hq1, ⟨fun x o q' => ?_, fun x q' => fr.there x (fr1.there x q'), fr.ext⟩, ?_⟩
      · rcases fr.keep x o q' with z | ⟨l, z | z⟩
        · rcases fr1.keep x o z with y | ⟨l, y | y⟩
          · exact .inl y
          · obtain ⟨r, er, nr⟩ := fr.ext
            rw [er] at y
            rcases List.mem_append.mp y with y | y
            · exact .inr ⟨l, .inl y⟩
            · rw [nr x y] at q'; cases q'
          · by_cases w : x = q
            · subst w; exact .inr ⟨l, .inr hAq⟩
            · rw [cp_ne w] at y; omega
        · exact .inr ⟨l, .inl z⟩
        · exact no0 z
      · have env1 := (e2.frame fr fun _ hx => no0 hx).frame fr1 fun x hx => by have := out x hx; omega
        have newq : Rep K mg (upd H1 q (.lst ws')) ρ1 (.lst true ys') (.ref q) (fun x => cp q x + a' x) f' := .own upd_same hnq1 (r'.frame fr1 fun x hx => by have := out x hx; have := le x; omega) (fun _ => rfl)
        have newp := put (upd H1 q (.lst ws')) ρ1 (fun d v a f h l => (h.frame fr fun _ hx => no0 hx).frame fr1 fun x hx => by have := out x hx; have := l x; omega) _ _ _ newq
        have new : Rep K mg (upd H1 q (.lst ws')) ρ1 (.lst true (xs.set n (.lst true ys'))) (.ref p) (fun x => cp p x + (cp q x + a' x + ar x)) (fun x => f' x + fr' x) := .own (by rw [upd_ne pq]; exact hp1) hnp1 newp (fun _ => rfl)
        have e3 := env1.put (i := i) (by simp [hil]) e1 new
        rw [List.set_set] at e3
        refine ⟨_, _, ⟨e3, ⟨wd.len, wd.nd, fun n b ys z1 z2 => ?_⟩, fun x => ?_⟩, fun x => ?_⟩
        · obtain ⟨w1, ws, a, f, w2, w3⟩ := wd.at_ n b ys z1 z2
          have nb : b ≠ q := fun z => hnq1 (z ▸ List.mem_of_getElem? z1)
          have zz := w3.plain w1
          exact ⟨w1, ws, a, f, by rw [upd_ne nb]; exact w2, w3.frame fr1 fun x _ => zz x⟩
        · show cp p x + (cp q x + a' x + ar x) + A2 x ≤ 1 ∧ (1 ≤ cp p x + (cp q x + a' x + ar x) + A2 x → f' x + fr' x + F2 x = 0)
          have s0 := rel.sep x
          have c := cnt x
          have l := le x
          refine ⟨by omega, fun z => ?_⟩
          have := s0.2 (by omega)
          omega
        · show cp p x + (cp q x + a' x + ar x) + A2 x ≤ A x ∧ f' x + fr' x + F2 x ≤ F x
          have c := cnt x
          have l := le x
          omega
end
def upd2 (g : UG) (i : Nat) (xs : List D) (j : Int) (ds : List D) (σ : Env) (s : Sto) : RS := match ixN xs.length j with
  | some n => match xs[n]? with
    | some (.lst true ys) => if plains ds = true then (match g ys ds with
      | some ys' => .nx (σ.set i (some (.lst true (xs.set n (.lst true ys'))))) s
      | none => .bad) else .bad
    | _ => .bad
  | none => .bad
/-- x[j][k] = e -/
def mSt2 (i : Nat) (mj mk m : M) : MS := fun σ s => match σ[i]? with
  | some (some (.lst true xs)) => (m σ s).to σ fun d s1 => (mj σ s1).to σ fun dj s2 => match dj with
    | .int j => match ixN xs.length j with
      | some n => match xs[n]? with
        | some (.lst true ys) => (mk σ s2).to σ fun dk s3 => upd2 uSet i xs j [d, dk] σ s3
        | _ => .bad
      | none => .bad
    | _ => .bad
  | _ => .bad
/-- x[j].append(e) -/
def mApp2 (i : Nat) (mj m : M) : MS := fun σ s => match σ[i]? with
  | some (some (.lst true xs)) => (mj σ s).to σ fun dj s1 => match dj with
    | .int j => match ixN xs.length j with
      | some n => match xs[n]? with
        | some (.lst true ys) => (m σ s1).to σ fun d s2 => upd2 uApp i xs j [d] σ s2
        | _ => .bad
      | none => .bad
    | _ => .bad
  | _ => .bad
theorem ixN_atI {α : Type} {vs : List α} {j : Int} {n : Nat} {v : α} (h : ixN vs.length j = some n) (e : vs[n]? = some v) : L2.atI vs j = some v := by
  unfold L2.atI
  rw [Option.bind_eq_some_iff]
  exact ⟨n, h, e⟩
section
variable {K : PySem.W.Frag} {mg : Str → Option Value} {W : WX} {H : Hp} {σ : L2.St} {Ds : Ends} {i : Nat} {mj mk m : M} {r : Addr → List V → Hp → Hp → Prop} {g : UG}
theorem upd2_end {K : PySem.W.Frag} {mg : Str → Option Value} {W : WX} {H : Hp} {ρ : List Addr} {σm : Env} {σ : L2.St} {s : Sto} {A F : Cnt} {Ds : Ends} {i n : Nat} {j : Int} {xs ys ds : List D} {ws : List V} {a f : Cnt} (hv : UV K mg r g)
    (rel : Rel K mg σm s σ H ρ A F) (hi : σm[i]? = some (some (.lst true xs))) (hn : ixN xs.length j = some n) (hy : xs[n]? = some (.lst true ys)) (rp : Reps K mg H ρ ds ws a f) (h : oS K mg W A F H ρ Ds (upd2 g i xs j ds σm s)) :
    ∃ p q vs, σ[i]? = some (some (.ref p)) ∧ H p = some (.lst vs) ∧ L2.atI vs j = some (.ref q) ∧ ∃ H2, r q ws H H2 ∧ Ds.nx σ H2 := by
  obtain ⟨p, q, vs, us, a2, f2, e1, hp, hl, hvn, hq, ry, wr⟩ := rel.wr2 hi hy
  unfold upd2 at h
  simp only [hn, hy] at h
  split at h
  · rename_i hpl
    split at h
    · rename_i ys' hys
      have z := rp.plain hpl
      obtain ⟨vs', a', f', r', le, rr⟩ := hv H ρ q ys ds ys' us ws a2 f2 a f hq ry rp hys
      obtain ⟨_, _, fr, A', F', rel', le'⟩ := wr H ρ s ys' vs' a' f' .refl rel.wd r' fun x => by have := le x; have := z x; omega
      refine ⟨p, q, vs, e1, hp, ixN_atI (by rw [hl]; exact hn) hvn, _, rr, h _ _ _ _ _ fr rel' fun x => ?_⟩
      have := le' x
      exact ⟨fun y => .inl (by omega), fun y => .inr (.inl (by omega))⟩
    · exact h.elim
  · exact h.elim
theorem st2_end (h : rS K mg W (mSt2 i mj mk m) Ds σ H) : rE K mg W m σ H fun x H1 => ∃ v, σ[i]? = some (some v) ∧ rE K mg W mj σ H1 fun y H2 => rIx K v y H2 fun o H3 => rE K mg W mk σ H3 fun k H4 => rSetL o k x H4 fun H5 => Ds.nx σ H5 := by
  obtain ⟨σm, s, ρ, A, F, rel, h⟩ := h
  unfold mSt2 at h
  split at h
  · rename_i xs hσ
    refine rE_of_to rel h fun d s1 v H1 ρ1 a f fr wd rp g h => ?_
    obtain ⟨p, vs, _, _, _, _, e1, _, _, _, _⟩ := rel.wr hσ
    have rel1 := rel.next fr wd
    refine ⟨_, e1, rE_of_to rel1 (oS.step fr.up .refl h) fun dj s2 vj H2 ρ2 aj fj fr2 wd2 rj gj h => ?_⟩
    split at h
    · rename_i j
      split at h
      · rename_i n hn
        split at h
        · rename_i ys hy
          cases inv_int rj
          have rel2 := rel1.next fr2 wd2
          obtain ⟨p', q, vs', us, a2, f2, e1', hp', hl, hvn, hq, ry, wr⟩ := rel2.wr2 hσ hy
          cases e1.symm.trans e1'
          refine .inl ⟨p, vs', j, .ref q, rfl, rfl, SqL.of hp', ixN_atI (by rw [hl]; exact hn) hvn, ?_⟩
          refine rE_of_to rel2 (oS.step fr2.up .refl h) fun dk s3 vk H3 ρ3 ak fk fr3 wd3 rk gk h => ?_
          have rel3 := rel2.next fr3 wd3
          obtain ⟨p3, q3, vs3, e3, hp3, at3, H5, ⟨y, k, eyk, rr⟩, nx⟩ := upd2_end u_set rel3 hσ hn hy (.cons ((rp.on fr2).on fr3) (.cons rk (.nil (A := c0) (F := c0) (fun _ => rfl) (fun _ => rfl)) (fun _ => rfl) (fun _ => rfl)) (fun _ => rfl) (fun _ => rfl)) (oS.step fr3.up .refl h)
          cases eyk
          cases e1.symm.trans e3
          have hv3 : vs3 = vs' := by
            have := wr H3 ρ3 s3 ys us a2 f2 fr3 wd3 (ry.on fr3) (fun x => ⟨Nat.le_refl _, Nat.le_refl _⟩)
            have h1 := this.1
            rw [hp3] at h1; cases h1; rfl
          subst hv3
          rw [ixN_atI (by rw [hl]; exact hn) hvn] at at3
          cases at3
          exact rr _ nx
        · exact h.elim
      · exact h.elim
    · exact h.elim
  · exact h.elim
theorem app2_end (h : rS K mg W (mApp2 i mj m) Ds σ H) : ∃ v, σ[i]? = some (some v) ∧ rE K mg W mj σ H fun y H2 => rIxL K v y H2 fun o H3 => (∃ q us, o = .ref q ∧ H3 q = some (.lst us)) ∧ rE K mg W m σ H3 fun x H4 => rAppend o [x] H4 fun _ H5 => Ds.nx σ H5 := by
  obtain ⟨σm, s, ρ, A, F, rel, h⟩ := h
  unfold mApp2 at h
  split at h
  · rename_i xs hσ
    obtain ⟨p, vs, _, _, _, _, e1, _, _, _, _⟩ := rel.wr hσ
    refine ⟨_, e1, rE_of_to rel h fun dj s2 vj H2 ρ2 aj fj fr2 wd2 rj gj h => ?_⟩
    split at h
    · rename_i j
      split at h
      · rename_i n hn
        split at h
        · rename_i ys hy
          cases inv_int rj
          have rel2 := rel.next fr2 wd2
          obtain ⟨p', q, vs', us, a2, f2, e1', hp', hl, hvn, hq, ry, wr⟩ := rel2.wr2 hσ hy
          cases e1.symm.trans e1'
          refine ⟨p, vs', j, .ref q, rfl, rfl, SqL.of hp', ixN_atI (by rw [hl]; exact hn) hvn, ⟨q, us, rfl, hq⟩, ?_⟩
          refine rE_of_to rel2 (oS.step fr2.up .refl h) fun d s3 v H3 ρ3 a f fr3 wd3 rp g h => ?_
          have rel3 := rel2.next fr3 wd3
          obtain ⟨p3, q3, vs3, e3, hp3, at3, H5, rr, nx⟩ := upd2_end u_app rel3 hσ hn hy (Reps.one rp) (oS.step fr3.up .refl h)
          cases e1.symm.trans e3
          have hv3 : vs3 = vs' := by
            have := wr H3 ρ3 s3 ys us a2 f2 fr3 wd3 (ry.on fr3) (fun x => ⟨Nat.le_refl _, Nat.le_refl _⟩)
            have h1 := this.1
            rw [hp3] at h1; cases h1; rfl
          subst hv3
          rw [ixN_atI (by rw [hl]; exact hn) hvn] at at3
          cases at3
          exact rr _ nx
        · exact h.elim
      · exact h.elim
    · exact h.elim
  · exact h.elim
end
section
variable {X : Cx} {W : WX} {e ei ej ek : Expr} {m mj mk : M} {pos pos' ipos spos apos cpos : Pos} {x : Str}
theorem ss_st2 (i : Nat) (he : SE X W e m) (hj : SE X W ej mj) (hk : SE X W ek mk) (hN : X.N[i]? = some x := by rfl) (hvis : Vis X.env.scope x := by first | exact Or.inl rfl | exact Or.inr (Or.inl rfl) | exact Or.inr (Or.inr rfl)) (hd : (x == ("__debug__" : Str)) = false := by decide) (hcd : (x == ("__classdict__" : Str)) = false := by decide)
    (hp : PlainIx ej := by intro _ _; rfl)
    (ha : ∀ v, assign (.Subscript (.Subscript (.Name x pos') ej ipos) ek spos) X.env v = (do
      let ov ← holding [v] (eval (.Subscript (.Name x pos') ej ipos) X.env)
      let iv ← holding [v, ov] (eval ek X.env)
      standAt spos
      holding [v, ov, iv] (setItem ov iv v)
      release [v, ov, iv] []) := by intro _; rfl)
    (hs : swapsWithSole [.Subscript (.Subscript (.Name x pos') ej ipos) ek spos] e pos.line X.env = pure false := by rfl) (hw : swappedStores [.Subscript (.Subscript (.Name x pos') ej ipos) ek spos] e X.env = pure none := by rfl)
    (h1 : (assignEach [.Subscript (.Subscript (.Name x pos') ej ipos) ek spos] X.env).map (·.2) = [assign (.Subscript (.Subscript (.Name x pos') ej ipos) ek spos) X.env] := by rfl) :
    SS X W (.Assign [.Subscript (.Subscript (.Name x pos') ej ipos) ek spos] e pos) (mSt2 i mj mk m) :=
  PS.imp (ps_asg he (pg_sub (pe_ix ix_seq (pe_var hN hvis hd hcd) hj hp) hk set_list ha) hs hw h1) fun D σ H h => st2_end h
theorem ss_app2 (i : Nat) (hj : SE X W ej mj) (he : SE X W e m) (hN : X.N[i]? = some x := by rfl) (hvis : Vis X.env.scope x := by first | exact Or.inl rfl | exact Or.inr (Or.inl rfl) | exact Or.inr (Or.inr rfl)) (hd : (x == ("__debug__" : Str)) = false := by decide) (hcd : (x == ("__classdict__" : Str)) = false := by decide)
    (hp : PlainIx ej := by intro _ _; rfl)
    (hst : starEach [e] X.env = [(false, eval e X.env)] := by rfl) (hline : (apos.endLine == cpos.line) = true := by rfl)
    (hbase : attributeBase (.Subscript (.Name x pos') ej ipos) "append" X.env (eval (.Subscript (.Name x pos') ej ipos) X.env) = eval (.Subscript (.Name x pos') ej ipos) X.env := by rfl)
    (hs : swapsWith (.Call (.Attribute (.Subscript (.Name x pos') ej ipos) "append" apos) [e] [] cpos) none pos.line X.env = pure false := by rfl) :
    SS X W (.Expr (.Call (.Attribute (.Subscript (.Name x pos') ej ipos) "append" apos) [e] [] cpos) pos) (mApp2 i mj m) :=
  PS.imp (ps_expr (pe_bm PySem.F.plainAttrs_list PySem.F.slot_list_append PySem.F.type_list_append mt_append (pe_ix ix_seq (pe_var hN hvis hd hcd) hj hp) (pa_cons he pa_nil hst) (hbase := hbase) (hfew := by rw [hst]; rfl) (hline := hline) (hs := hst) (hplain := by rfl)) hs) fun D σ H h => by
    obtain ⟨v, e1, h⟩ := app2_end h
    exact ⟨v, e1, rE_mono h fun y H2 ⟨p, xs, k, o, ex, ey, hL, ea, ⟨q, us, eo, hq⟩, hr⟩ => .inl ⟨p, xs, k, o, ex, ey, hL, ea, by subst eo; exact .inl ⟨rfl, us, SqL.of hq⟩, rE_mono hr fun x H4 z => z⟩⟩
end
end Zm
set_option Elab.async false
set_option linter.all false
set_option maxRecDepth 100000
set_option autoImplicit false
/-! Z29: for x in xs: x.append(..), x.reverse(), loops of the same kind within: the lists within an owned list are written. -/
namespace Zm
open PySem PySem.Spec PyProof.Rows L2
inductive UP where
  | app (m : M)
  | rev
  | seq (a b : UP)
  | each (u : UP)
section
variable {K : PySem.W.Frag} {mg : Str → Option Value} {W : WX} {H H' H1 : Hp} {ρ ρ' ρ1 : List Addr} {σm : Env} {σ : L2.St} {s s' s1 : Sto} {A F : Cnt}
/-- a slot forgotten -/
theorem EnvR.drop : ∀ {σm : Env} {σ : L2.St} {A F : Cnt} (j : Nat), EnvR K mg H ρ σm σ A F → ∃ A' F', EnvR K mg H ρ (σm.set j none) σ A' F' ∧ ∀ x, A' x ≤ A x ∧ F' x ≤ F x
  | _, _, _, _, j, .nil a f => ⟨_, _, .nil a f, fun x => ⟨Nat.le_refl _, Nat.le_refl _⟩⟩
  | _, _, _, _, 0, .no t => ⟨_, _, .no t, fun x => ⟨Nat.le_refl _, Nat.le_refl _⟩⟩
  | _, _, _, _, j + 1, .no t => by
    obtain ⟨A', F', e, l⟩ := EnvR.drop j t
    exact ⟨A', F', .no e, l⟩
  | _, _, _, _, 0, .yes h t e1 e2 => ⟨_, _, .no t, fun x => by rw [e1, e2]; omega⟩
  | _, _, _, _, j + 1, .yes h t e1 e2 => by
    obtain ⟨A', F', e, l⟩ := EnvR.drop j t
    exact ⟨_, _, .yes h e (fun _ => rfl) (fun _ => rfl), fun x => by have := l x; rw [e1, e2]; omega⟩
end
theorem Chg.refl {ss : List Nat} {σ : L2.St} : Chg ss σ σ := ⟨rfl, fun _ _ => rfl⟩
theorem Chg.tr {ss : List Nat} {σ σ' σ'' : L2.St} (a : Chg ss σ σ') (b : Chg ss σ' σ'') : Chg ss σ σ'' := ⟨b.1.trans a.1, fun j hj => (b.2 j hj).trans (a.2 j hj)⟩
section
variable {K : PySem.W.Frag} {mg : Str → Option Value} {W : WX} {H : Hp} {σ : L2.St} {Ds : Ends} {j : Nat} {vs : List Nat}
end
section
variable {X : Cx} {W : WX} {e : Expr} {m : M} {u ub : UP} {st : Stmt} {sts ss : List Stmt} {j j' : Nat} {vs : List Nat} {pos pos' apos cpos epos : Pos} {x y : Str}
end
end Zm
set_option Elab.async false
set_option linter.all false
set_option maxRecDepth 100000
set_option autoImplicit false
/-! Z30: defs as values, called; a dict of one pair; sorted keys; list(range(..)). -/
namespace Zm
open PySem PySem.Spec PyProof.Rows L2
/-- the defs that may be called -/
inductive FT (P : Program) (w : World) (K : PySem.W.Frag) (mg : Str → Option Value) (base : Heap) (k : Nat) : List (Str × Fn) → Prop
  | nil : FT P w K mg base k []
  | cons {x : Str} {ps : List Str} {m : Fn} {r : List (Str × Fn)} : FnM P w K mg base k x ps m → FT P w K mg base k r → FT P w K mg base k ((x, m) :: r)
def ftLook : List (Str × Fn) → Str → Option Fn
  | [], _ => none
  | p :: r, x => if p.1 = x then some p.2 else ftLook r x
theorem FT.look {P : Program} {w : World} {K : PySem.W.Frag} {mg : Str → Option Value} {base : Heap} {k : Nat} {tbl : List (Str × Fn)} (h : FT P w K mg base k tbl) {x : Str} {m : Fn} : ftLook tbl x = some m → ∃ ps, FnM P w K mg base k x ps m := by
  induction h with
  | nil => intro e; cases e
  | @cons y ps m' r F _ ih =>
    intro e
    unfold ftLook at e
    split at e
    · rename_i z
      cases e
      dsimp only at z
      subst z
      exact ⟨ps, F⟩
    · exact ih e
section
variable {K : PySem.W.Frag} {mg : Str → Option Value} {W : WX} {σ : L2.St} {H : Hp} {Q : VK} {tbl : List (Str × Fn)} {mf : M} {ms : List M}
end
section
variable {X : Cx} {W : WX} {fe e : Expr} {es : List Expr} {mf : M} {ms : List M} {k i : Nat} {x : Str} {ps : List Str} {m : Fn} {tbl : List (Str × Fn)} {p pos : Pos}
end
/-! ### {k: v} -/
section
variable {X : Cx} {W : WX} {ek ev : Expr} {mk mv : M} {pos : Pos}
end
end Zm
namespace Zm
open PySem PySem.Spec PyProof.Rows L2
/-! ### sorted(d), d's keys ints; list(range(..)) -/
section
variable {K : PySem.W.Frag} {mg : Str → Option Value}
end
section
variable {X : Cx} {W : WX} {ea eb : Expr} {ma mb : M} {p q pos qpos : Pos}
end
end Zm
set_option Elab.async false
set_option linter.all false
set_option maxRecDepth 100000
set_option autoImplicit false
/-! Z31: a value handed on as frozen. -/
namespace Zm
open PySem PySem.Spec PyProof.Rows L2
def mFz (m : M) : M := fun σ s => (m σ s).bind fun d s' => .ok (fz d) s'
section
variable {X : Cx} {W : WX} {e : Expr} {m : M}
theorem s_fz (h : SE X W e m) : SE X W e (mFz m) := PE.imp h fun σ H Q ⟨σm, s, ρ, A, F, rel, h⟩ => by
  refine ⟨σm, s, ρ, A, F, rel, ?_⟩
  unfold mFz at h
  cases em : m σm s with
  | bad => rw [em] at h; exact h
  | ex x s1 => rw [em] at h; exact h
  | ok d s1 =>
    rw [em] at h
    intro v H1 ρ1 a f fr wd rp gd
    obtain ⟨F', r, q⟩ := rp.fz
    refine h v H1 ρ1 c0 F' fr wd r fun x => ⟨by simp [c0], fun z => by simp [c0] at z, fun z => ?_⟩
    have := q x z
    have g := gd x
    by_cases ha : 1 ≤ a x
    · exact .inr (.inr (g.2.1 ha).2)
    · exact g.2.2 (by omega)
end
section
variable {K : PySem.W.Frag} {mg : Str → Option Value}
end
end Zm
set_option Elab.async false
set_option linter.all false
set_option maxRecDepth 100000
set_option autoImplicit false
/-! ZI4: enumerate of a zip of two rows. -/
namespace Zi
open PySem PySem.Spec PyProof.Rows L2
section
variable {prog : Program} {w : World} {A : Around} {E : Value → Shared → Prop} {s : Shared} {z tI tO i1 i2 : Addr} {fp1 fp2 : List Addr} {n1 n2 i : Nat} {P1 P2 : Nat → Value → Prop} {St1 St2 : Nat → Heap → Prop} {a1 a2 u : Value} {b : Bool}
theorem of_item {Q : Value → Shared → Prop} (S : ZipSep2 z tI tO i1 i2 fp1 fp2) (D1 : Draws prog w A.in1 i1 fp1 n1 P1 St1) (D2 : Draws prog w A.in1 i2 fp2 n2 P2 St2)
    (hz : ZipF s.heap z tI tO u b) (hu : Lent u) (hI : IsTupOf2 s.heap tI (.ref i1) (.ref i2)) (hO : IsTupOf2 s.heap tO a1 a2) (t1 : St1 i s.heap) (t2 : St2 i s.heap) (l1 : i < n1) (l2 : i < n2)
    (hQ : ∀ x y h' tk u' b' c1 c2, P1 i x → P2 i y → ZipF h' z tI tO u' b' → Lent u' → IsTupOf2 h' tO c1 c2 → St1 (i + 1) h' → St2 (i + 1) h' → IsTupOf2 h' s.heap.objs.size x y → Hop z tO i1 i2 s.heap h' → Q (.ref s.heap.objs.size) { s with heap := h', toks := tk }) :
    wpAny (model prog w) A (Builtin.SmallTypes.nextOf (.ref z)) Q E s := by
  have ty : s.TypeIs (.ref z) "zip" := ⟨_, hz, rfl⟩
  unfold Builtin.SmallTypes.nextOf
  exact wpAny_bind (wpAny_callSpecial?_slot (name := Str.ofString "__next__") ty F.slot_zip_next (wpAny_call_entry F.slot_zip_next ty F.entry_zip_next
    (nx_item S D1 D2 hz hu hI hO t1 t2 l1 l2 fun x y h' tk u' b' c1 c2 q1 q2 q3 q4 q5 q6 q7 q8 q9 => wpAny_pure (hQ x y h' tk u' b' c1 c2 q1 q2 q3 q4 q5 q6 q7 q8 q9)) (F.args_zip_next_1 _)))
theorem of_end {Q : Value → Shared → Prop} (S : ZipSep2 z tI tO i1 i2 fp1 fp2) (D1 : Draws prog w A.in1 i1 fp1 n1 P1 St1) (D2 : Draws prog w A.in1 i2 fp2 n2 P2 St2)
    (hz : ZipF s.heap z tI tO u b) (hu : Lent u) (hI : IsTupOf2 s.heap tI (.ref i1) (.ref i2)) (hO : IsTupOf2 s.heap tO a1 a2) (t1 : St1 i s.heap) (t2 : St2 i s.heap) (l1 : i ≤ n1) (l2 : i ≤ n2) (hend : i = n1 ∨ i = n2)
    (hE : ∀ h' tk e, Hop z tO i1 i2 s.heap h' → (∃ o, h'.get? e = some o ∧ o.cls = .type "StopIteration") → E (.ref e) { s with heap := h', toks := tk }) :
    wpAny (model prog w) A (Builtin.SmallTypes.nextOf (.ref z)) Q E s := by
  have ty : s.TypeIs (.ref z) "zip" := ⟨_, hz, rfl⟩
  unfold Builtin.SmallTypes.nextOf
  exact wpAny_bind (wpAny_callSpecial?_slot (name := Str.ofString "__next__") ty F.slot_zip_next (wpAny_call_entry F.slot_zip_next ty F.entry_zip_next (nx_end S D1 D2 hz hu hI hO t1 t2 l1 l2 hend fun h' tk e hk he => hE h' tk e hk he) (F.args_zip_next_1 _)))
end
section
variable {prog : Program} {w : World} {A : Around} {E : Value → Shared → Prop} {s : Shared}
/-- one turn of enumerate, whatever is walked -/
theorem ez_item {e z : Addr} {c : Int} {old : Value} {PZ : Value → Heap → Prop} {Q : Value → Shared → Prop}
    (he : IsEnum s.heap e z c old)
    (nxt : ∀ Q' : Value → Shared → Prop, (∀ x h1 tk, PZ x h1 → Q' x { s with heap := h1, toks := tk }) → wpAny (model prog w) A (Builtin.SmallTypes.nextOf (.ref z)) Q' E s)
    (keep : ∀ x h1, PZ x h1 → IsEnum h1 e z c old)
    (hQ : ∀ x h1 h' tk, PZ x h1 → IsEnumOut h' e z (c + 1) x h1.objs.size → h'.get? h1.objs.size = some { cls := .type "tuple", data := .seq #[.int c tk, x] } →
      (∀ b o, b ≠ e → h1.get? b = some o → h'.get? b = some o) → Q (.ref h1.objs.size) { s with heap := h', toks := tk + 1 }) :
    wpAny (model prog w) A (Builtin.«enumerate.__next__» ⟨[.ref e], []⟩) (fun fin s' => ∃ v, fin = .done (.ret v) ∧ Q v s') E s := by
  obtain ⟨hp, g, d, tk₀, os⟩ := s
  show wpAny _ _ (field (.ref e) 2 >>= _) _ _ _
  refine wpAny_bind (wpAny_field he rfl (x := .ref z) rfl ?_)
  refine wpAny_bind (nxt _ fun x h₁ tk hx => ?_)
  have he₁ := keep x h₁ hx
  show wpAny _ _ (field (.ref e) 3 >>= _) _ _ ⟨h₁, g, d, tk, os⟩
  refine wpAny_bind (wpAny_field he₁ rfl (x := rawInt c) rfl ?_)
  show wpAny _ _ (field (.ref e) 4 >>= _) _ _ ⟨h₁, g, d, tk, os⟩
  refine wpAny_bind (wpAny_field he₁ rfl (x := .none) rfl ?_)
  show wpAny _ _ (mkInt c >>= _) _ _ ⟨h₁, g, d, tk, os⟩
  refine wpAny_bind (wpAny_mkInt ?_)
  show wpAny _ _ (setField (.ref e) 3 (rawInt (c + 1)) >>= _) _ _ ⟨h₁, g, d, tk + 1, os⟩
  refine wpAny_bind (wpAny_setField_rec he₁ (by simp) fun h₂ he₂ hs₂ => ?_)
  replace hs₂ : Heap.SameBut e h₁ h₂ := hs₂
  replace he₂ : IsEnum h₂ e z (c + 1) old := he₂
  show wpAny _ _ (setField (.ref e) 4 .none >>= _) _ _ ⟨h₂, g, d, tk + 1, os⟩
  refine wpAny_bind (wpAny_setField_rec he₂ (by simp) fun h₃ he₃ hs₃ => ?_)
  replace hs₃ : Heap.SameBut e h₂ h₃ := hs₃
  replace he₃ : IsEnum h₃ e z (c + 1) old := he₃
  show wpAny _ _ (newTuple [.int c tk, x] >>= _) _ _ ⟨h₃, g, d, tk + 1, os⟩
  refine wpAny_bind (wpAny_newTuple ?_)
  have he₄ : IsEnum (h₃.push { cls := .type "tuple", data := .seq #[.int c tk, x] }) e z (c + 1) old := Heap.get?_push_of_some _ he₃
  generalize hh₄ : h₃.push { cls := .type "tuple", data := .seq #[.int c tk, x] } = h₄ at he₄
  have hsz : h₃.objs.size = h₁.objs.size := by rw [hs₃.1, hs₂.1]
  have hel : e < h₁.objs.size := Heap.lt_size he₁
  have ht₄ : h₄.get? h₁.objs.size = some { cls := .type "tuple", data := .seq #[.int c tk, x] } := by rw [← hh₄, ← hsz]; exact Heap.get?_push_size _ rfl
  have hk₄ : ∀ b o, b ≠ e → h₁.get? b = some o → h₄.get? b = some o := fun b o hbe hb => by
    rw [← hh₄]; exact Heap.get?_push_of_some _ (hs₃.extBut b o hbe (hs₂.extBut b o hbe hb))
  show wpAny _ _ (Builtin.SmallTypes.ownedTupleIsFree (.ref e) >>= _) _ _ ⟨h₄, g, d, tk + 1, os⟩
  rw [hsz]
  clear hh₄ he₃ hs₃ he₂ hs₂ hsz h₃ h₂
  refine wpAny_bind ?_
  · unfold Builtin.SmallTypes.ownedTupleIsFree
    refine wpAny_bind (wpAny_field he₄ rfl (x := .none) rfl (wpAny_pure ?_))
    simp only [if_true]
    refine wpAny_bind (wpAny_rule ?_)
    refine wpAny_bind (wpAny_field he₄ rfl (x := old) rfl ?_)
    refine wpAny_bind (wpAny_setField_rec he₄ (by simp) fun h₅ he₅ hs₅ => ?_)
    replace hs₅ : Heap.SameBut e h₄ h₅ := hs₅
    replace he₅ : IsEnum h₅ e z (c + 1) x := he₅
    show wpAny _ _ (Builtin.SmallTypes.ownedTupleHandOut (.ref e) (.ref h₁.objs.size) >>= _) _ _ ⟨h₅, g, d, tk + 1, os⟩
    refine wpAny_bind ?_
    · unfold Builtin.SmallTypes.ownedTupleHandOut
      refine wpAny_bind (wpAny_setField_rec he₅ (by simp) fun h₆ he₆ hs₆ => ?_)
      replace hs₆ : Heap.SameBut e h₅ h₆ := hs₆
      replace he₆ : IsEnumOut h₆ e z (c + 1) x h₁.objs.size := he₆
      refine wpAny_setField_rec he₆ (by simp) fun h₇ he₇ hs₇ => ?_
      replace hs₇ : Heap.SameBut e h₆ h₇ := hs₇
      replace he₇ : IsEnumOut h₇ e z (c + 1) x h₁.objs.size := he₇
      refine wpAny_bind (wpAny_letGo (wpAny_pure ⟨_, rfl, hQ x h₁ h₇ tk hx he₇ ?_ ?_⟩))
      · exact hs₇.extBut _ _ (Nat.ne_of_gt hel) (hs₆.extBut _ _ (Nat.ne_of_gt hel) (hs₅.extBut _ _ (Nat.ne_of_gt hel) ht₄))
      · exact fun b o hbe hb => hs₇.extBut b o hbe (hs₆.extBut b o hbe (hs₅.extBut b o hbe (hk₄ b o hbe hb)))
theorem ez_next {e z : Addr} {c : Int} {old : Value} {PZ : Value → Heap → Prop} {Q : Option Value → Shared → Prop}
    (he : IsEnum s.heap e z c old)
    (nxt : ∀ (E' : Value → Shared → Prop) (Q' : Value → Shared → Prop), (∀ x h1 tk, PZ x h1 → Q' x { s with heap := h1, toks := tk }) → wpAny (model prog w) A.in1 (Builtin.SmallTypes.nextOf (.ref z)) Q' E' s)
    (keep : ∀ x h1, PZ x h1 → IsEnum h1 e z c old)
    (hQ : ∀ x h1 h' tk, PZ x h1 → IsEnumOut h' e z (c + 1) x h1.objs.size → h'.get? h1.objs.size = some { cls := .type "tuple", data := .seq #[.int c tk, x] } →
      (∀ b o, b ≠ e → h1.get? b = some o → h'.get? b = some o) → Q (some (.ref h1.objs.size)) { s with heap := h', toks := tk + 1 }) :
    wpAny (model prog w) A (pyNext (.ref e)) Q E s := by
  have hT : s.TypeIs (.ref e) "enumerate" := ⟨_, he, rfl⟩
  unfold pyNext
  exact wpAny_bind (wpAny_attempt (wpAny_callSpecial?_slot (name := Str.ofString "__next__") hT F.slot_enumerate_next
    (wpAny_call_entry F.slot_enumerate_next hT F.entry_enumerate_next
      (ez_item he (nxt _) keep fun x h1 h' tk a b c d => wpAny_pure (hQ x h1 h' tk a b c d)) (F.args_enumerate_next_1 _))))
theorem ez_end {e z : Addr} {c : Int} {old : Value} {Q : Option Value → Shared → Prop} (he : IsEnum s.heap e z c old)
    (fin : ∀ (Q' : Value → Shared → Prop) (E' : Value → Shared → Prop), (∀ h' tk x, (∃ o, h'.get? x = some o ∧ o.cls = .type "StopIteration") → Q none { s with heap := h', toks := tk } → E' (.ref x) { s with heap := h', toks := tk }) → wpAny (model prog w) A.in1 (Builtin.SmallTypes.nextOf (.ref z)) Q' E' s) :
    wpAny (model prog w) A (pyNext (.ref e)) Q E s := by
  have hT : s.TypeIs (.ref e) "enumerate" := ⟨_, he, rfl⟩
  unfold pyNext
  refine wpAny_bind (wpAny_attempt (wpAny_callSpecial?_slot (name := Str.ofString "__next__") hT F.slot_enumerate_next
    (wpAny_call_entry F.slot_enumerate_next hT F.entry_enumerate_next ?_ (F.args_enumerate_next_1 _))))
  show wpAny _ _ (field (.ref e) 2 >>= _) _ _ _
  refine wpAny_bind (wpAny_field he rfl (x := .ref z) rfl ?_)
  refine wpAny_bind (fin _ _ fun h' tk x hx q => ?_)
  obtain ⟨o, ho, hc⟩ := hx
  exact wpAny_bind (wpAny_isInstance (T := "StopIteration") (b := true) ⟨o, ho, hc⟩ isSubtype_stop (wpAny_pure q))
end
def ItEZ (K : PySem.W.Frag) (b1 b2 : Bool) (p q : Addr) : It :=
  ⟨fun i H => ∃ (xs ys : List V) (x y : V), Sq K b1 H p xs ∧ Sq K b2 H q ys ∧ xs[i]? = some x ∧ ys[i]? = some y,
   fun i H v H' => ∃ T1 T x y, v = .ref T ∧ H T1 = none ∧ (upd H T1 (.tup [x, y])) T = none ∧ H' = upd (upd H T1 (.tup [x, y])) T (.tup [.int (i : Nat), .ref T1]) ∧ (∀ xs, Sq K b1 H p xs → xs[i]? = some x) ∧ ∀ ys, Sq K b2 H q ys → ys[i]? = some y,
   fun i H => ∃ xs ys : List V, Sq K b1 H p xs ∧ Sq K b2 H q ys ∧ i ≤ xs.length ∧ i ≤ ys.length ∧ (i = xs.length ∨ i = ys.length)⟩
theorem turnEZ {P : Program} {w : World} {K : PySem.W.Frag} {elts : List Expr} {kk : Nat} {tpos : Pos} {b1 b2 : Bool} {p q e z tI tO i1 i2 : Addr} (S : ZipSep2 z tI tO i1 i2 [i1, p] [i2, q]) (hp : p ≠ i1) (hq : q ≠ i2) (hez : e ≠ z) (heO : e ≠ tO) (heI : e ≠ tI) (he1 : e ≠ i1) (he2 : e ≠ i2) :
    Turn P w K (.Tuple elts kk tpos) (ItEZ K b1 b2 p q) [e, z, tI, tO, i1, i2] e
      (fun i h => (∃ old, IsEnum h e z ((i : Nat) : Int) old) ∧ ∃ u b, ZipF h z tI tO u b ∧ Lent u ∧ IsTupOf2 h tI (.ref i1) (.ref i2) ∧ (∃ x y, IsTupOf2 h tO x y) ∧ IterAt b1 h i1 p i ∧ IterAt b2 h i2 q i) where
  mem := by simp
  obj := by
    rintro i h ⟨⟨old, he⟩, u, b, hz, hu, hI, ⟨x, y, hO⟩, h1, h2⟩ c hc
    simp only [List.mem_cons, List.not_mem_nil, or_false] at hc
    rcases hc with rfl | rfl | rfl | rfl | rfl | rfl
    · exact ⟨_, he, fun v e => by cases e⟩
    · exact ⟨_, hz, fun v e => by cases e⟩
    · exact ⟨_, hI, fun v e => by cases e⟩
    · exact ⟨_, hO, fun v e => by cases e⟩
    · exact h1.obj
    · exact h2.obj
  keep := by
    rintro i h h' ⟨⟨old, he⟩, u, b, hz, hu, hI, ⟨x, y, hO⟩, h1, h2⟩ k
    exact ⟨⟨old, k e (by simp) _ he⟩, u, b, k z (by simp) _ hz, hu, k tI (by simp) _ hI, ⟨x, y, k tO (by simp) _ hO⟩, h1.keep fun o e => k i1 (by simp) o e, h2.keep fun o e => k i2 (by simp) o e⟩
  item := by
    intro X hP hw hK hc i pins s σ H E I hf st hg
    subst hP hw hK
    obtain ⟨⟨old, he⟩, u, b, hz, hu, hI, ⟨x0, y0, hO⟩, h1, h2⟩ := st
    obtain ⟨xs, ys, x, y, sx, sy, ex, ey⟩ := hg
    obtain ⟨its, rx, a1, _⟩ := seq_of I sx
    obtain ⟨jts, ry, a2, _⟩ := seq_of I sy
    obtain ⟨v1, hv1, r1⟩ := rx.get ex
    obtain ⟨v2, hv2, r2⟩ := ry.get ey
    have hh := I.ok.hd hc
    have el : e < s.heap.objs.size := Heap.lt_size he
    have zl : z < s.heap.objs.size := Heap.lt_size hz
    have all : ∀ c, c ∈ [e, z, tI, tO, i1, i2] → c < s.heap.objs.size := fun c m => by
      simp only [List.mem_cons, List.not_mem_nil, or_false] at m
      rcases m with rfl | rfl | rfl | rfl | rfl | rfl
      · exact el
      · exact zl
      · exact Heap.lt_size hI
      · exact Heap.lt_size hO
      · obtain ⟨o, e, _⟩ := h1.obj; exact Heap.lt_size e
      · obtain ⟨o, e, _⟩ := h2.obj; exact Heap.lt_size e
    refine ez_next (PZ := fun xv h1' => xv = .ref s.heap.objs.size ∧ (∃ u' b' c1 c2, ZipF h1' z tI tO u' b' ∧ Lent u' ∧ IsTupOf2 h1' tO c1 c2) ∧ IterAt b1 h1' i1 p (i + 1) ∧ IterAt b2 h1' i2 q (i + 1) ∧ IsTupOf2 h1' s.heap.objs.size v1 v2 ∧ Hop z tO i1 i2 s.heap h1') he (fun E' Q' k => ?_) (fun xv h1' hx => ?_) ?_
    · refine of_item S (draws (by exact hh) b1 i1 p hp its.toArray) (draws (by exact hh) b2 i2 q hq jts.toArray) hz hu hI hO ⟨h1, a1⟩ ⟨h2, a2⟩
        (by simpa using (List.getElem?_eq_some_iff.mp hv1).1) (by simpa using (List.getElem?_eq_some_iff.mp hv2).1) ?_
      intro x1 x2 h' tk u' b' c1 c2 e1 e2 hz' hu' hO' st1 st2 hN hk
      have e1 : x1 = v1 := by have := e1; simp [hv1] at this; exact this.symm
      have e2 : x2 = v2 := by have := e2; simp [hv2] at this; exact this.symm
      subst e1 e2
      exact k _ _ _ ⟨rfl, ⟨_, _, _, _, hz', hu', hO'⟩, st1.1, st2.1, hN, hk⟩
    · obtain ⟨_, _, _, _, _, hk⟩ := hx
      exact hk _ _ hez heO he1 he2 he
    · rintro xv hp1 h' tk ⟨rfl, ⟨u', b', c1, c2, hz', hu', hO'⟩, j1, j2, hN, hk⟩ ho hT hk2
      refine ⟨_, rfl, wpAny_letOwnedTupleGo_enum (s := { s with heap := h', toks := tk + 1 }) ho fun h'' he' sb => ?_⟩
      have nl : s.heap.objs.size < hp1.objs.size := Heap.lt_size hN
      have el1 : e < hp1.objs.size := Nat.lt_trans el nl
      -- the pair
      have new1 : ObjOk X.prog X.w (upd H s.heap.objs.size (.tup [x, y])) hp1 s.heap.objs.size (.tup [x, y]) := ⟨by show 2 ≤ sizeLine; decide, [v1, v2], .cons r1 (.cons r2 .nil), ⟨_, hN, rfl, _, rfl⟩⟩
      have I1 : Inv X pins σ (upd H s.heap.objs.size (.tup [x, y])) { s with heap := hp1, toks := tk } := by
        refine I.turnedNew (ch := [e, z, tI, tO, i1, i2]) (fun c o hb e => ?_) hf (Nat.le_refl _) new1
        simp only [List.mem_cons, List.not_mem_nil, or_false, not_or] at hb
        exact hk c o hb.2.1 hb.2.2.2.1 hb.2.2.2.2.1 hb.2.2.2.2.2 e
      have hf1 : ∀ c ∈ [e, z, tI, tO, i1, i2], FpOk X pins (upd H s.heap.objs.size (.tup [x, y])) c := fun c m => by
        obtain ⟨f0, f1, f2, f3, f4, f5⟩ := hf c m
        exact ⟨by rw [upd_ne (Nat.ne_of_lt (all c m))]; exact f0, f1, f2, f3, f4, f5⟩
      have up : ∀ c o, c ≠ e → hp1.get? c = some o → h''.get? c = some o := fun c o ne q => (sb.2 c ne).trans (hk2 c o ne q)
      have hT2 : h''.get? hp1.objs.size = some { cls := .type "tuple", data := .seq #[.int i tk, .ref s.heap.objs.size] } := (sb.2 _ (Nat.ne_of_gt el1)).trans hT
      have hn2 : (upd H s.heap.objs.size (.tup [x, y])) hp1.objs.size = none := I1.hok.fresh (Nat.le_refl _)
      have new2 : ObjOk X.prog X.w (upd (upd H s.heap.objs.size (.tup [x, y])) hp1.objs.size (.tup [.int (i : Nat), .ref s.heap.objs.size])) h'' hp1.objs.size (.tup [.int (i : Nat), .ref s.heap.objs.size]) :=
        ⟨by show 2 ≤ sizeLine; decide, [.int i tk, .ref s.heap.objs.size], .cons ⟨_, rfl⟩ (.cons rfl .nil), ⟨_, hT2, rfl, _, rfl⟩⟩
      have I2 : Inv X pins σ (upd (upd H s.heap.objs.size (.tup [x, y])) hp1.objs.size (.tup [.int (i : Nat), .ref s.heap.objs.size])) { s with heap := h'', toks := tk + 1 } := by
        refine I1.turnedNew (ch := [e]) (fun c o hb q => ?_) (fun c m => hf1 c (by simp only [List.mem_cons, List.not_mem_nil, or_false] at m; subst m; simp)) (Nat.le_refl _) new2
        simp only [List.mem_cons, List.not_mem_nil, or_false] at hb
        exact up c o hb q
      refine ⟨.ref hp1.objs.size, _, I2, rfl, ⟨s.heap.objs.size, hp1.objs.size, x, y, rfl, I.hok.fresh (Nat.le_refl _), hn2, rfl, fun l hl => by rw [seq_inj I hl sx]; exact ex, fun l hl => by rw [seq_inj I hl sy]; exact ey⟩, ⟨⟨.ref s.heap.objs.size, ?_⟩, u', b', up _ _ hez.symm hz', hu', ?_, ⟨c1, c2, up _ _ heO.symm hO'⟩, j1.keep fun o q => up _ _ he1.symm q, j2.keep fun o q => up _ _ he2.symm q⟩, fun c m => ?_⟩
      · have e1 : ((i + 1 : Nat) : Int) = (i : Int) + 1 := by omega
        rw [e1]; exact he'
      · exact up _ _ heI.symm (hk _ _ S.TIz S.TITO S.TIi1 S.TIi2 hI)
      · rw [upd_ne (Nat.ne_of_lt (Nat.lt_trans (all c m) nl)), upd_ne (Nat.ne_of_lt (all c m))]
        exact (hf c m).1
  done := by
    intro X hP hw hK hc i pins s σ H E I hf st hg
    subst hP hw hK
    obtain ⟨⟨old, he⟩, u, b, hz, hu, hI, ⟨x0, y0, hO⟩, h1, h2⟩ := st
    obtain ⟨xs, ys, sx, sy, l1, l2, hend⟩ := hg
    obtain ⟨its, rx, a1, _⟩ := seq_of I sx
    obtain ⟨jts, ry, a2, _⟩ := seq_of I sy
    have hh := I.ok.hd hc
    have m1 := rx.length
    have m2 := ry.length
    refine ez_end he fun Q' E' k => ?_
    refine of_end S (draws (by exact hh) b1 i1 p hp its.toArray) (draws (by exact hh) b2 i2 q hq jts.toArray) hz hu hI hO ⟨h1, a1⟩ ⟨h2, a2⟩ (by simp; omega) (by simp; omega) (by simp; omega) fun h' tk x hk hx => k h' tk x hx ⟨rfl, ?_⟩
    refine I.turnedL (ch := [e, z, tI, tO, i1, i2]) (fun c o hb e => ?_) hf
    simp only [List.mem_cons, List.not_mem_nil, or_false, not_or] at hb
    exact hk c o hb.2.1 hb.2.2.2.1 hb.2.2.2.2.1 hb.2.2.2.2.2 e
  self := fun A i s Q E ⟨⟨old, he⟩, _⟩ h => wpAny_pyIter_enum he h
set_option maxHeartbeats 1000000 in
theorem meets_enumZ {z tI tO : Addr} {u : Value} {b : Bool} :
    Meets (Builtin.«enumerate.__new__» ⟨[.type "enumerate", .ref z], []⟩) (fun _ R s => ZipF s.heap z tI tO u b ∧
      R (.ok (.ret (.ref s.heap.objs.size))) { s with heap := s.heap.push { cls := .type "enumerate", data := .fields #[.none, .bool false, .ref z, rawInt 0, .none, .none] } }) := by
  refine .of_wp fun prog w A R s h => ?_
  obtain ⟨hp, g, d, tk, os⟩ := s
  obtain ⟨h1, h⟩ := h
  have hsub := sub_enumerate
  have q1 : ∀ {A' : Around} {E : Value → Shared → Prop} {Q : Value → Shared → Prop},
      Q (.ref z) ⟨hp, g, d, tk, os⟩ → wpAny (model prog w) A' (pyIter (.ref z)) Q E ⟨hp, g, d, tk, os⟩ := by
    intro A' E Q q
    exact py_self (s := ⟨hp, g, d, tk, os⟩) h1 q
  wp_walk using q1
  refine wpAny_stack_any ?_
  intro st
  refine wpAny_pure ?_
  split
  · rename_i c _ _ _ _ _
    cases (c == Value.type "enumerate") <;> (wp_walk using q1; exact ⟨_, rfl, h⟩)
  · (wp_walk using q1; exact ⟨_, rfl, h⟩)
theorem enumZ {prog : Program} {w : World} {A : Around} {E : Value → Shared → Prop} {s : Shared} {z tI tO : Addr} {u : Value} {b : Bool} {Q : Value → Shared → Prop} (h1 : ZipF s.heap z tI tO u b)
    (h : ∀ h', IsEnum h' s.heap.objs.size z 0 .none → (∀ b o, s.heap.get? b = some o → h'.get? b = some o) → Q (.ref s.heap.objs.size) { s with heap := h' }) :
    wpAny (model prog w) A (call (.type "enumerate") [.ref z]) Q E s := by
  refine callType_new F.called_enumerate (by decide) (F.typeCall_enumerate_1 _) (F.newCall_enumerate_1 _)
    (fun obj => F.args_object_init_2 obj _) F.entry_enumerate_new meets_enumZ ⟨h1, ?_⟩
  have at2 := Heap.get?_push_size s.heap (o := { cls := .type "enumerate", data := .fields #[.none, .bool false, .ref z, rawInt 0, .none, .none] }) rfl
  exact ⟨⟨_, at2, rfl⟩, h _ at2 fun b o x => Heap.get?_push_of_some _ x⟩
def iEZ (K : PySem.W.Frag) (ta : TA) : TI := fun σ H R => ta σ H fun vs H1 => ∃ b1 b2 p q xs ys, vs = [.ref p, .ref q] ∧ Sq K b1 H1 p xs ∧ Sq K b2 H1 q ys ∧ R (ItEZ K b1 b2 p q) H1
theorem pi_ez {X : Cx} {e e2 : Expr} {ta : TA} {pe pe2 ps pos tpos : Pos} {elts : List Expr} {kk : Nat} (hme : X.mg "enumerate" = none) (hm : X.mg "zip" = none) (ha : PA X [e, e2] ta) (hge : Gl X "enumerate" := by rfl) (hg : Gl X "zip" := by rfl)
    (hse : starEach [.Call (.Name "zip" ps) [e, e2] [] pos] X.env = [(false, eval (.Call (.Name "zip" ps) [e, e2] [] pos) X.env)] := by rfl)
    (hs : starEach [e, e2] X.env = (false, eval e X.env) :: starEach [e2] X.env := by rfl) (hpl : (backTo pos (starEach [e2] X.env)).any (·.1) = false := by rfl) :
    PI X (.Tuple elts kk tpos) (.Call (.Name "enumerate" pe) [.Call (.Name "zip" ps) [e, e2] [] pos] [] pe2) (iEZ X.K ta) := by
  constructor
  intro pins s σ H R I h
  refine Call_ (ld_blt I hge hme boot_enumerate (PyProof.Rows.callWith_type1 (rest := []) ?_ hse rfl))
  rw [hse]
  show wpAny _ _ (spliced ((false, eval (.Call (.Name "zip" ps) [e, e2] [] pos) X.env) :: [])) _ _ s
  refine Calls.spliced_cons ?_
  refine Call_ (ld_blt I hg hm PyProof.Rows.boot_zip (PyProof.Rows.callWith_type1 (thn (ha.run pos pins s σ H _ I h) ?_) hs hpl))
  rintro us s1 ⟨vs, H1, I1, r1, b1, b2, p, q, xs, ys, ex, sx, sy, k⟩
  subst ex
  match us, r1 with
  | [_, _], .cons rfl (.cons rfl .nil) =>
    obtain ⟨its, rx, a1, lp⟩ := seq_of I1 sx
    obtain ⟨jts, ry, a2, lq⟩ := seq_of I1 sy
    refine zip_begins2 (begins b1 p its.toArray) (begins b2 q jts.toArray) a1 a2 ?_
    intro h' hz hI hO o1 o2 hsz hk
    have hz : ZipF h' _ _ _ .none false := hz
    refine Calls.spliced_nil ?_
    refine enumZ (s := { s1 with heap := h' }) hz ?_
    intro h2 he hk2
    refine wpAny_pyIter_enum he ?_
    have I2 : Inv X pins σ H1 { s1 with heap := h2 } := I1.kept (t' := s1.toks) fun b o x => hk2 b o (hk b o x)
    have sep := zip_sep2 (N := s1.heap.objs.size) (fp1 := [p]) (fp2 := [q]) (by simpa using lp) (by simpa using lq)
    have hsz : h'.objs.size = s1.heap.objs.size + 5 := hsz
    have he' : IsEnum h2 (s1.heap.objs.size + 5) (s1.heap.objs.size + 4) 0 .none := by rw [← hsz]; exact he
    have ne : ∀ {n a b : Nat}, a ≠ b → n + a ≠ n + b := fun h => by omega
    have q4 : s1.heap.objs.size + 5 ≠ s1.heap.objs.size + 4 := ne (by decide)
    have q3 : s1.heap.objs.size + 5 ≠ s1.heap.objs.size + 3 := ne (by decide)
    have q2 : s1.heap.objs.size + 5 ≠ s1.heap.objs.size + 2 := ne (by decide)
    have q0 : s1.heap.objs.size + 5 ≠ s1.heap.objs.size := ne (b := 0) (by decide)
    have q1 : s1.heap.objs.size + 5 ≠ s1.heap.objs.size + 1 := ne (by decide)
    show PIE X pins σ _ R (.ref h'.objs.size) _
    rw [hsz]
    refine ⟨s1.heap.objs.size + 5, [s1.heap.objs.size + 5, s1.heap.objs.size + 4, s1.heap.objs.size + 2, s1.heap.objs.size + 3, s1.heap.objs.size, s1.heap.objs.size + 1], _, _, H1, rfl, I2,
      turnEZ (e := s1.heap.objs.size + 5) (z := s1.heap.objs.size + 4) (tI := s1.heap.objs.size + 2) (tO := s1.heap.objs.size + 3) (i1 := s1.heap.objs.size) (i2 := s1.heap.objs.size + 1) (b1 := b1) (b2 := b2) sep (Nat.ne_of_lt lp) (Nat.ne_of_lt (Nat.lt_succ_of_lt lq)) q4 q3 q2 q0 q1, ⟨⟨.none, he'⟩, .none, false, hk2 _ _ hz, .inl rfl, hk2 _ _ hI, ⟨_, _, hk2 _ _ hO⟩, itObj_at (hk2 _ _ o1), itObj_at (hk2 _ _ o2)⟩, ?_, k⟩
    intro c hcm
    have hle : s1.heap.objs.size ≤ c := by
      simp only [List.mem_cons, List.not_mem_nil, or_false] at hcm
      rcases hcm with rfl | rfl | rfl | rfl | rfl | rfl <;> omega
    exact I1.fpOk hle (I1.hok.fresh hle)
end Zi
set_option Elab.async false
set_option linter.all false
set_option maxRecDepth 100000
set_option autoImplicit false
/-! Z32: enumerate of a zip. -/
namespace Zm
open PySem PySem.Spec PyProof.Rows L2
def iEZip2 (ms : List M) : Src := fun σ s => (mArgs ms σ s).bind fun ds s' => match ds with
  | [a, b] => (match itemsOf a, itemsOf b with
    | some xs, some ys => .ok (enumF 0 (zip2 xs ys)) s'
    | _, _ => .bad)
  | _ => .bad
section
variable {X : Cx} {W : WX} {tge e e2 e3 : Expr} {m ma mb mc : M} {ms : List M} {es : List Expr} {p p2 pos pos2 tpos : Pos} {elts : List Expr} {kk : Nat}
theorem ezip_rd {σ : L2.St} {H : Hp} {R : It → Hp → Prop} (h : rI X.K X.mg W false (iEZip2 ms) σ H R) : Zi.iEZ X.K (rA X.K X.mg W (mArgs ms)) σ H R := by
    obtain ⟨σm, s, ρ, A, F, rel, h⟩ := h
    refine ⟨σm, s, ρ, A, F, rel, ?_⟩
    unfold iEZip2 at h
    cases em : mArgs ms σm s with
    | bad => rw [em] at h; exact h
    | ex x s1 => rw [em] at h; exact h
    | ok ds s1 =>
      rw [em, Zm.R.bind_ok] at h
      intro vs H1 ρ1 a f fr wd rp gd
      split at h
      · split at h
        · rename_i d1 d2 xs ys e1 e2
          obtain ⟨v1, v2, a1, f1, a2, f2, rfl, r1, r2, eq⟩ := rp.inv2
          obtain ⟨b1, p1, vs1, f1', rfl, sq1, t1, th1, _, _, g1, le1, q1, st1⟩ := sq_of e1 r1
          obtain ⟨b2, p2, vs2, f2', rfl, sq2, t2, th2, _, _, g2, le2, q2, st2⟩ := sq_of e2 r2
          refine ⟨b1, b2, p1, p2, vs1, vs2, rfl, sq1, sq2, h _ H1 ρ1 (fun x => g1 x + g2 x) fr wd ⟨fun x w => ?_, fun H => Zi.Sq X.K b1 H p1 vs1 ∧ Zi.Sq X.K b2 H p2 vs2,
            fun i H v H' => ∃ T1 T x y, v = .ref T ∧ H T1 = none ∧ (upd H T1 (.tup [x, y])) T = none ∧ H' = upd (upd H T1 (.tup [x, y])) T (.tup [.int (i : Nat), .ref T1]) ∧ vs1[i]? = some x ∧ vs2[i]? = some y, ?_, fun Mc H2 ρ2 fr2 hm => ?_⟩ (gd_src gd fun x w => ?_)⟩
          · have w : 1 ≤ g1 x + g2 x := w
            by_cases u : 1 ≤ g1 x
            · exact g_there r1 q1 x u
            · exact g_there r2 q2 x (by omega)
          · have hl : (enumF 0 (zip2 xs ys)).length = min vs1.length vs2.length := by rw [enumF_length]; unfold zip2; rw [List.length_zipWith, t1.length, t2.length]
            rw [hl]
            refine ⟨fun i H hi ⟨s1, s2⟩ => ?_, fun H ⟨s1, s2⟩ => ⟨vs1, vs2, s1, s2, by omega, by omega, by omega⟩, fun i H v H' hi ⟨s1, s2⟩ y => ?_⟩
            · exact ⟨vs1, vs2, vs1[i], vs2[i], s1, s2, List.getElem?_eq_getElem (by omega), List.getElem?_eq_getElem (by omega)⟩
            · obtain ⟨T1, T, x, y', y1, y2, y3, y4, y5, y6⟩ := y
              exact ⟨T1, T, x, y', y1, y2, y3, y4, y5 _ s1, y6 _ s2⟩
          · have hm : ∀ x, 1 ≤ Mc x → g1 x + g2 x = 0 := hm
            have h1 := st1 Mc H2 ρ2 fr2 fun x z => by have := hm x z; omega
            have h2 := st2 Mc H2 ρ2 fr2 fun x z => by have := hm x z; omega
            refine ⟨⟨h1, h2⟩, fun i d x H3 e y => ?_⟩
            obtain ⟨T1, T, u1, u2, rfl, hT1, hT, rfl, w1, w2⟩ := y
            have t1' := t1.frame fr2 fun x hx => ⟨rfl, by have := hm x hx; have := le1 x; omega⟩
            have t2' := t2.frame fr2 fun x hx => ⟨rfl, by have := hm x hx; have := le2 x; omega⟩
            obtain ⟨z0, ez, rfl⟩ := enumF_get _ _ _ _ e
            unfold zip2 at ez
            rw [List.getElem?_zipWith_eq_some] at ez
            obtain ⟨x1, x2, z1, z2, rfl⟩ := ez
            obtain ⟨v1, a1', f3, e3, rp3, le3⟩ := t1'.at z1
            obtain ⟨v2, a2', f4, e4, rp4, le4⟩ := t2'.at z2
            rw [e3] at w1
            rw [e4] at w2
            obtain rfl := Option.some.inj w1
            obtain rfl := Option.some.inj w2
            have za : a1' = c0 := funext fun x => by have := (le3 x).1; have z0 : c0 x = 0 := rfl; omega
            have zb : a2' = c0 := funext fun x => by have := (le4 x).1; have z0 : c0 x = 0 := rfl; omega
            subst za zb
            have inner := new_tup hT1 (.cons rp3 (Reps.one rp4) (A := c0) (F := fun x => f3 x + f4 x) (fun _ => rfl) (fun _ => rfl))
            have ri : ∀ Hx, Rep X.K X.mg Hx ρ2 (.int ((0 + i : Nat) : Int)) (.int ((i : Nat) : Int)) c0 c0 := fun Hx => by rw [Nat.zero_add]; exact .int (fun _ => rfl) (fun _ => rfl)
            exact ⟨fun a o q => same_upd hT a o (same_upd hT1 a o q), _, new_tup hT (.cons (ri _) (Reps.one inner) (A := c0) (F := fun x => f3 x + f4 x) (fun _ => rfl) (fun x => by show f3 x + f4 x = 0 + (f3 x + f4 x); omega)), fun x => by have := (le3 x).2; have := (le4 x).2; have := le1 x; have := le2 x; show f3 x + f4 x ≤ g1 x + g2 x; omega⟩
          · have w : 1 ≤ g1 x + g2 x := w
            have := eq x
            by_cases u : 1 ≤ g1 x
            · have := q1 x u; omega
            · have := q2 x (by omega); omega
        · exact h.elim
      · exact h.elim
theorem si_ezip2 (hme : X.mg "enumerate" = none) (hm : X.mg "zip" = none) (ha : SA X W [e, e2] ms) (hge : Gl X "enumerate" := by rfl) (hg : Gl X "zip" := by rfl)
    (hse : starEach [.Call (.Name "zip" p) [e, e2] [] pos] X.env = [(false, eval (.Call (.Name "zip" p) [e, e2] [] pos) X.env)] := by rfl)
    (hs : starEach [e, e2] X.env = (false, eval e X.env) :: starEach [e2] X.env := by rfl) (hpl : (backTo pos (starEach [e2] X.env)).any (·.1) = false := by rfl) :
    SI X W false (.Tuple elts kk tpos) (.Call (.Name "enumerate" p2) [.Call (.Name "zip" p) [e, e2] [] pos] [] pos2) (iEZip2 ms) :=
  PI.imp (Zi.pi_ez hme hm ha hge hg hse hs hpl) fun σ H R h => ezip_rd h
end
end Zm
set_option Elab.async false
set_option linter.all false
set_option maxRecDepth 100000
set_option autoImplicit false
/-! Z33: a, b = y[i][j], y[k][l]: only what lies within y is frozen. -/
namespace Zm
open PySem PySem.Spec PyProof.Rows L2
def rowAt (xs : List D) (k : Int) : Option (List D) := match L2.atI xs k with
  | some (.lst _ ys) => some ys
  | _ => none
def toI1 (m : M) (σ : Env) (s : Sto) (k : Int → Sto → RS) : RS := (m σ s).to σ fun d s' => match d with
  | .int a => k a s'
  | _ => .bad
def mPar2Ix (i1 i2 j : Nat) (ka kb kc kd : M) : MS := fun σ s => match σ[j]? with
  | some (some (.lst true xs)) => toI1 ka σ s fun a s1 => match rowAt xs a with
    | some ys => toI1 kb σ s1 fun b s2 => match L2.atI ys b with
      | some d1 => toI1 kc σ s2 fun c s3 => match rowAt xs c with
        | some zs => toI1 kd σ s3 fun e s4 => match L2.atI zs e with
          | some d2 => if i1 < σ.length ∧ i2 < σ.length then .nx (((σ.set j (some (.lst true (fzs xs)))).set i1 (some (fz d1))).set i2 (some (fz d2))) s4 else .bad
          | none => .bad
        | none => .bad
      | none => .bad
    | none => .bad
  | _ => .bad
section
variable {K : PySem.W.Frag} {mg : Str → Option Value} {W : WX} {H H' H1 : Hp} {ρ ρ' ρ1 : List Addr} {σm : Env} {σ : L2.St} {s s' s1 : Sto} {A F : Cnt} {Ds : Ends}
theorem toI1_rd {R : VK} {m : M} {k : Int → Sto → RS} (rel : Rel K mg σm s σ H ρ A F) (h : oS K mg W A F H ρ Ds (toI1 m σm s k))
    (hk : ∀ a s1 H1 ρ1, Fr c0 H H1 ρ ρ1 → Wd K mg ρ1 s1 H1 → oS K mg W A F H ρ Ds (k a s1) → R (.int a) H1) : rE K mg W m σ H R := by
  unfold toI1 at h
  refine rE_of_to rel h fun d s1 v H1 ρ1 a f fr wd rp g h => ?_
  split at h
  · cases inv_int rp
    exact hk _ s1 H1 ρ1 fr wd h
  · exact h.elim
theorem rowAt_fz {xs ys : List D} {k : Int} (h : rowAt xs k = some ys) : L2.atI (fzs xs) k = some (.lst false (fzs ys)) := by
  unfold rowAt at h
  split at h
  · rename_i o zs e
    cases h
    exact atI_fz e
  · cases h
/-- a row within, where it stands -/
theorem el_row {xs ys : List D} {vs : List V} {f : Cnt} {k : Int} (r : Reps K mg H ρ (fzs xs) vs c0 f) (h : rowAt xs k = some ys) :
    ∃ q us g, L2.atI vs k = some (.ref q) ∧ (H q = some (.lst us) ∧ q ∉ ρ) ∧ Reps K mg H ρ (fzs ys) us c0 g ∧ ∀ x, g x ≤ f x := by
  obtain ⟨w, a', f', e3, rp', le⟩ := r.atI (rowAt_fz h)
  cases rp' with
  | frz h1 h2 t e =>
    refine ⟨_, _, _, e3, ⟨h1, h2⟩, t.cong (fun x => ?_) (fun _ => rfl), fun x => ?_⟩
    · have := (le x).1
      have z : c0 x = 0 := rfl
      omega
    · have := (le x).2; rw [e] at this; omega
theorem el_at {ys : List D} {us : List V} {d : D} {g : Cnt} {k : Int} (r : Reps K mg H ρ (fzs ys) us c0 g) (h : L2.atI ys k = some d) : ∃ v f, L2.atI us k = some v ∧ Rep K mg H ρ (fz d) v c0 f ∧ ∀ x, f x ≤ g x := by
  obtain ⟨w, a', f', e3, rp', le⟩ := r.atI (atI_fz h)
  refine ⟨w, f', e3, rp'.cong (fun x => ?_) (fun _ => rfl), fun x => (le x).2⟩
  have := (le x).1
  have z : c0 x = 0 := rfl
  omega
theorem lst_fr (fr : Fr c0 H H1 ρ ρ1) {q : Addr} {us : List V} (h : H q = some (.lst us)) (hq : q ∉ ρ) : H1 q = some (.lst us) := by
  rcases fr.keep _ _ h with z | ⟨_, z | z⟩
  · exact z
  · exact (hq z).elim
  · exact no0 z
theorem par2Ix_end {i1 i2 j : Nat} {ka kb kc kd : M} (h : rS K mg W (mPar2Ix i1 i2 j ka kb kc kd) Ds σ H) :
    tCons (tOp (rIx K) (tOp (rIx K) (tVar j) (rE K mg W ka)) (rE K mg W kb)) (tCons (tOp (rIx K) (tOp (rIx K) (tVar j) (rE K mg W kc)) (rE K mg W kd)) tNil) σ H fun vs H1 => ∃ v w, vs = [v, w] ∧ Ds.nx ((σ.set i1 (some v)).set i2 (some w)) H1 := by
  obtain ⟨σm, s, ρ, A, F, rel, h⟩ := h
  unfold mPar2Ix at h
  split at h
  case h_2 => exact h.elim
  case h_1 xs hσ =>
    obtain ⟨p, vs, a1, f1, A2, F2, e1, hp, r0, q, wr⟩ := rel.wr hσ
    obtain ⟨f', r', qf⟩ := r0.fz
    have at_p : ∀ {H1 ρ1 s1}, Fr c0 H H1 ρ ρ1 → Wd K mg ρ1 s1 H1 → H1 p = some (.lst vs) := fun {H1 ρ1 s1} fr1 wd1 => (wr H1 ρ1 s1 xs vs a1 f1 fr1 wd1 (r0.frame fr1 fun _ hx => no0 hx) fun x => by have := rel.sep x; have := q x; exact ⟨by omega, fun y => by have := (rel.sep x).2 (by omega); omega⟩).1
    refine ⟨_, e1, toI1_rd rel h fun a s1 H1 ρ1 fr1 wd1 h => ?_⟩
    split at h
    case h_2 => exact h.elim
    case h_1 ys hy =>
      obtain ⟨q1, us, g, x1, x2, x3, x4⟩ := el_row (r'.frame fr1 fun _ hx => no0 hx) hy
      refine .inl ⟨p, vs, a, _, rfl, rfl, SqL.of (at_p fr1 wd1), x1, ?_⟩
      refine toI1_rd (rel.next fr1 wd1) (oS.step fr1.up .refl h) fun b s2 H2 ρ2 fr2 wd2 h => ?_
      split at h
      case h_2 => exact h.elim
      case h_1 d1 hd1 =>
        obtain ⟨v1, g1, y1, y2, y3⟩ := el_at (x3.frame fr2 fun _ hx => no0 hx) hd1
        have fr02 := fr1.trans fr2 fun x hx => no0 hx
        refine .inl ⟨q1, us, b, v1, rfl, rfl, SqL.of (lst_fr fr2 x2.1 x2.2), y1, ?_⟩
        refine ⟨_, e1, toI1_rd (rel.next fr02 wd2) (oS.step fr2.up .refl h) fun c s3 H3 ρ3 fr3 wd3 h => ?_⟩
        have fr03 := fr02.trans fr3 fun x hx => no0 hx
        split at h
        case h_2 => exact h.elim
        case h_1 zs hz =>
          obtain ⟨q2, us2, g2, u1, u2, u3, u4⟩ := el_row (r'.frame fr03 fun _ hx => no0 hx) hz
          refine .inl ⟨p, vs, c, _, rfl, rfl, SqL.of (at_p fr03 wd3), u1, ?_⟩
          refine toI1_rd (rel.next fr03 wd3) (oS.step fr3.up .refl h) fun e s4 H4 ρ4 fr4 wd4 h => ?_
          have fr04 := fr03.trans fr4 fun x hx => no0 hx
          split at h
          case h_2 => exact h.elim
          case h_1 d2 hd2 =>
            obtain ⟨v2, g4, w1, w2, w3⟩ := el_at (u3.frame fr4 fun _ hx => no0 hx) hd2
            refine .inl ⟨q2, us2, e, v2, rfl, rfl, SqL.of (lst_fr fr4 u2.1 u2.2), w1, ?_⟩
            split at h
            case isFalse => exact h.elim
            case isTrue hl =>
              refine ⟨v1, v2, rfl, ?_⟩
              have hz : ∀ x, cp p x + c0 x + A2 x ≤ 1 ∧ (1 ≤ cp p x + c0 x + A2 x → f' x + F2 x = 0) := fun x => by
                have s0 := rel.sep x
                have q0 := q x
                have z0 : c0 x = 0 := rfl
                refine ⟨by omega, fun y => ?_⟩
                have := s0.2 (by omega)
                by_cases w : 1 ≤ f' x
                · have := qf x w; omega
                · omega
              obtain ⟨hp4, frw, h3⟩ := wr H4 ρ4 s4 (fzs xs) vs c0 f' fr04 wd4 (r'.frame fr04 fun _ hx => no0 hx) hz
              have eu : upd H4 p (.lst vs) = H4 := funext fun x => by
                by_cases z : x = p
                · subst z; rw [upd_same]; exact hp4.symm
                · rw [upd_ne z]
              rw [eu] at h3 frw
              have v1r := y2.frame (fr3.trans fr4 fun x hx => no0 hx) fun _ hx => no0 hx
              obtain ⟨A5, F5, e5, l5, _⟩ := h3.env.set i1 v1r (by simpa using hl.1)
              obtain ⟨A6, F6, e6, l6, _⟩ := e5.set i2 w2 (by simpa using hl.2)
              have le1 : ∀ x, g1 x ≤ f' x := fun x => Nat.le_trans (y3 x) (x4 x)
              have le4 : ∀ x, g4 x ≤ f' x := fun x => Nat.le_trans (w3 x) (u4 x)
              refine h _ _ _ A6 F6 fr4.up ⟨e6, wd4, fun x => ?_⟩ fun x => ?_
              · have l5 := l5 x; have l6 := l6 x; have z0 : c0 x = 0 := rfl; have z := hz x; have := le1 x; have := le4 x
                refine ⟨by omega, fun y => ?_⟩
                have := z.2 (by omega)
                omega
              · have l5 := l5 x; have l6 := l6 x; have z0 : c0 x = 0 := rfl; have z := hz x; have := le1 x; have := le4 x; have q0 := q x
                refine ⟨fun y => .inl (by omega), fun y => ?_⟩
                by_cases w : 1 ≤ f' x
                · have := qf x w
                  by_cases u : 1 ≤ A x
                  · exact .inl u
                  · exact .inr (.inl (by omega))
                · exact .inr (.inl (by omega))
end
section
variable {X : Cx} {W : WX} {ea eb ec ed : Expr} {ka kb kc kd : M} {px py pt pt2 pos p1 p2 p3 p4 p5 p6 : Pos} {kt k2} {x y z : Str}
theorem ss_par2Ix (i1 i2 j : Nat) (hc : X.calm = true) (nd : X.N.Nodup) (ha : SE X W ea ka) (hb : SE X W eb kb) (hcc : SE X W ec kc) (hd : SE X W ed kd) (hi : X.N[i1]? = some x := by rfl) (hi2 : X.N[i2]? = some y := by rfl) (hij : i1 ≠ i2 := by decide)
    (hx : X.env.scope.names.lookup x = some .local := by rfl) (hy : X.env.scope.names.lookup y = some .local := by rfl)
    (hN : X.N[j]? = some z := by rfl) (hvis : Vis X.env.scope z := by first | exact Or.inl rfl | exact Or.inr (Or.inl rfl) | exact Or.inr (Or.inr rfl)) (hdb : (z == ("__debug__" : Str)) = false := by decide) (hcd : (z == ("__classdict__" : Str)) = false := by decide)
    (qa : PlainIx ea := by intro _ _; rfl) (qb : PlainIx eb := by intro _ _; rfl) (qc : PlainIx ec := by intro _ _; rfl) (qd : PlainIx ed := by intro _ _; rfl)
    (hst : starEach [.Subscript (.Subscript (.Name z p1) ea p2) eb p3, .Subscript (.Subscript (.Name z p4) ec p5) ed p6] X.env = (false, eval (.Subscript (.Subscript (.Name z p1) ea p2) eb p3) X.env) :: starEach [.Subscript (.Subscript (.Name z p4) ec p5) ed p6] X.env := by rfl)
    (hst2 : starEach [.Subscript (.Subscript (.Name z p4) ec p5) ed p6] X.env = (false, eval (.Subscript (.Subscript (.Name z p4) ec p5) ed p6) X.env) :: starEach [] X.env := by rfl)
    (hw : swappedStores [.Tuple [.Name x px, .Name y py] kt pt] (.Tuple [.Subscript (.Subscript (.Name z p1) ea p2) eb p3, .Subscript (.Subscript (.Name z p4) ec p5) ed p6] k2 pt2) X.env = pure (some [x, y]) := by rfl)
    (hs : swapsWithSole [.Tuple [.Name x px, .Name y py] kt pt] (.Tuple [.Subscript (.Subscript (.Name z p1) ea p2) eb p3, .Subscript (.Subscript (.Name z p4) ec p5) ed p6] k2 pt2) pos.line X.env = pure false := by rfl) :
    SS X W (.Assign [.Tuple [.Name x px, .Name y py] kt pt] (.Tuple [.Subscript (.Subscript (.Name z p1) ea p2) eb p3, .Subscript (.Subscript (.Name z p4) ec p5) ed p6] k2 pt2) pos) (mPar2Ix i1 i2 j ka kb kc kd) :=
  PS.imp (ps_par hc nd hi hi2 hij hx hy (pa_cons (pe_ix ix_seq (pe_ix ix_seq (pe_var hN hvis hdb hcd) ha qa) hb qb) (pa_cons (pe_ix ix_seq (pe_ix ix_seq (pe_var hN hvis hdb hcd) hcc qc) hd qd) pa_nil hst2) hst) hw hs) fun D σ H h => par2Ix_end h
end
end Zm
set_option Elab.async false
set_option linter.all false
set_option maxRecDepth 100000
set_option autoImplicit false
/-! Z34: name *= e of numbers. -/
namespace Zm
open PySem PySem.Spec PyProof.Rows L2
section
variable {X : Cx}
end
section
variable {K : PySem.W.Frag} {mg : Str → Option Value} {W : WX} {σ : L2.St} {H : Hp} {D : Ends} {i : Nat} {m : M}
end
section
variable {X : Cx} {W : WX} {e : Expr} {m : M} {x : Str} {pos pos' : Pos}
end
end Zm
set_option Elab.async false
set_option linter.all false
set_option maxRecDepth 100000
set_option autoImplicit false
/-! Z35: min of three. -/
namespace Zm
open PySem PySem.Spec PyProof.Rows L2
@[simp] def gMin3 : Sto → List D → Option D := fun _ ds => match ds with
  | [.int i, .int j, .int k] => some (.int (if k < (if j < i then j else i) then k else (if j < i then j else i)))
  | _ => none
section
variable {K : PySem.W.Frag} {mg : Str → Option Value}
end
end Zm
set_option Elab.async false
set_option linter.all false
set_option maxRecDepth 100000
set_option autoImplicit false
/-! Z36: list(reversed(xs)), tuple(reversed(xs)); a def by another name. -/
namespace RT
open PySem PySem.Spec PyProof.Rows
section
variable {prog : Program} {w : World} {A : Around} {E : Value → Shared → Prop} {s : Shared}
end
section
open L2
variable {X : Cx}
end
end RT
namespace Zm
open PySem PySem.Spec PyProof.Rows L2
section
variable {K : PySem.W.Frag} {mg : Str → Option Value}
variable {X : Cx} {W : WX} {e : Expr} {m : M} {p p2 pos pos2 : Pos}
end
section
variable {P : Program} {w : World} {K : PySem.W.Frag} {mg : Str → Option Value} {base : Heap}
end
end Zm
set_option Elab.async false
set_option linter.all false
set_option maxRecDepth 100000
set_option autoImplicit false
/-! Z37: return (a number, a list of the def's own). -/
namespace Zm
open PySem PySem.Spec PyProof.Rows L2
section
variable {X : Cx} {W : WX} {e : Expr} {m : M} {x : Str} {pos pos' pos2 : Pos} {p1 : Nat}
end
end Zm
set_option Elab.async false
set_option linter.all false
set_option maxRecDepth 100000
set_option autoImplicit false
/-! Z38: a name becomes a new list of what is frozen: the list itself stays owned. -/
namespace Zm
open PySem PySem.Spec PyProof.Rows L2
section
variable {K : PySem.W.Frag} {mg : Str → Option Value} {H H1 : Hp} {ρ ρ1 : List Addr} {σm : Env} {σ : L2.St} {s s1 : Sto} {v : V} {A F a f : Cnt}
end
section
variable {X : Cx} {W : WX} {e : Expr} {m : M} {pos pos' : Pos} {x : Str}
end
end Zm
set_option Elab.async false
set_option linter.all false
set_option maxRecDepth 100000
set_option autoImplicit false
/-! Z39: sorted(d), d's keys pairs of ints. -/
namespace Zm
open PySem PySem.Spec PyProof.Rows L2
section
variable {X : Cx}
end
end Zm
set_option Elab.async false
set_option linter.all false
set_option maxRecDepth 100000
set_option autoImplicit false
/-! Z40: the machine of sorted(d), d's keys pairs of ints. -/
namespace Zm
open PySem PySem.Spec PyProof.Rows L2
section
variable {K : PySem.W.Frag} {mg : Str → Option Value} {H : Hp} {ρ : List Addr}
end
end Zm
set_option Elab.async false
set_option linter.all false
set_option maxRecDepth 100000
set_option autoImplicit false
/-! Z41: x[j][k] += e. -/
namespace Zm
open PySem PySem.Spec PyProof.Rows L2
section
variable {K : PySem.W.Frag} {mg : Str → Option Value} {W : WX} {H : Hp} {σ : L2.St} {Ds : Ends} {i : Nat} {mj mk m : M}
end
section
variable {X : Cx} {W : WX} {e ej ek : Expr} {m mj mk : M} {pos pos' ipos spos : Pos} {x : Str}
end
end Zm
set_option Elab.async false
set_option linter.all false
set_option maxRecDepth 100000
set_option autoImplicit false
/-! Z42: name = f(a, xs.pop(e)), f a def as a value, xs an owned list of numbers. -/
namespace Zm
open PySem PySem.Spec PyProof.Rows L2
section
variable {K : PySem.W.Frag} {mg : Str → Option Value} {W : WX} {H H' H1 : Hp} {ρ ρ' ρ1 : List Addr} {σm : Env} {σ : L2.St} {s s' s1 : Sto}
end
section
variable {X : Cx} {W : WX} {e : Expr} {me : M} {k : Nat} {f x xa xi : Str} {tbl : List (Str × Fn)} {pos pos' p1 p2 p3 apos cpos bpos : Pos}
end
end Zm
set_option Elab.async false
set_option linter.all false
set_option maxRecDepth 100000
set_option autoImplicit false
/-! Z43: sorted(xs, reverse=True), numbers. -/
namespace Zm
open PySem PySem.Spec PyProof.Rows L2
section
variable {K : PySem.W.Frag} {mg : Str → Option Value}
end
section
variable {X : Cx} {W : WX} {e : Expr} {m : M} {p pos p2 kpos : Pos} {j : Nat}
end
section
variable {X : Cx} {W : WX} {ea : Expr} {ma : M} {p q pos qpos : Pos}
end
end Zm
set_option Elab.async false
set_option linter.all false
set_option maxRecDepth 100000
set_option autoImplicit false
/-! Z44: the least of a list of lists of numbers. -/
namespace Zm
open PySem PySem.Spec PyProof.Rows L2
mutual
theorem reads_uniq {h : Heap} : ∀ {d d' : PyData} {v : Value} {as bs : List Addr}, Reads h v d as → Reads h v d' bs → d = d'
  | _, _, _, _, _, .none, .none => rfl
  | _, _, _, _, _, .bool _, .bool _ => rfl
  | _, _, _, _, _, .int _ _, .int _ _ => rfl
  | _, _, _, _, _, .str _ _, .str _ _ => rfl
  | _, _, _, _, _, .list e1 _ d1 r1, .list e2 _ d2 r2 => by
    rw [e1] at e2; cases e2; rw [d1] at d2; cases d2
    rw [readsA_uniq r1 r2]
  | _, _, _, _, _, .tuple e1 _ d1 r1, .tuple e2 _ d2 r2 => by
    rw [e1] at e2; cases e2; rw [d1] at d2; cases d2
    rw [readsA_uniq r1 r2]
  | _, _, _, _, _, .list e1 c1 _ _, .tuple e2 c2 _ _ => by
    rw [e1] at e2; cases e2; rw [c1] at c2; exact absurd (Value.type.inj c2) (by decide)
  | _, _, _, _, _, .tuple e1 c1 _ _, .list e2 c2 _ _ => by
    rw [e1] at e2; cases e2; rw [c1] at c2; exact absurd (Value.type.inj c2) (by decide)
  | _, _, _, _, _, .dict e1 c1 _ _ _, .list e2 c2 _ _ => by
    rw [e1] at e2; cases e2; rw [c1] at c2; exact absurd (Value.type.inj c2) (by decide)
  | _, _, _, _, _, .dict e1 c1 _ _ _, .tuple e2 c2 _ _ => by
    rw [e1] at e2; cases e2; rw [c1] at c2; exact absurd (Value.type.inj c2) (by decide)
  | _, _, _, _, _, .list e1 c1 _ _, .dict e2 c2 _ _ _ => by
    rw [e1] at e2; cases e2; rw [c1] at c2; exact absurd (Value.type.inj c2) (by decide)
  | _, _, _, _, _, .tuple e1 c1 _ _, .dict e2 c2 _ _ _ => by
    rw [e1] at e2; cases e2; rw [c1] at c2; exact absurd (Value.type.inj c2) (by decide)
  | _, _, _, _, _, .dict e1 _ d1 r1 q1, .dict e2 _ d2 r2 q2 => by
    rw [e1] at e2; cases e2; rw [d1] at d2; cases d2
    have a := readsA_uniq r1 r2
    have b := readsA_uniq q1 q2
    congr 1
    exact pairs_eq a b
theorem readsA_uniq {h : Heap} : ∀ {ds es : List PyData} {vs : List Value} {as bs : List Addr}, ReadsAll h vs ds as → ReadsAll h vs es bs → ds = es
  | _, _, _, _, _, .nil, .nil => rfl
  | _, _, _, _, _, .cons r1 q1, .cons r2 q2 => by rw [reads_uniq r1 r2, readsA_uniq q1 q2]
theorem pairs_eq {α β : Type} : ∀ {xs ys : List (α × β)}, xs.map (·.1) = ys.map (·.1) → xs.map (·.2) = ys.map (·.2) → xs = ys
  | [], [], _, _ => rfl
  | [], _ :: _, h, _ => by simp at h
  | _ :: _, [], h, _ => by simp at h
  | (a, b) :: xs, (c, d) :: ys, h, h' => by
    simp only [List.map_cons, List.cons.injEq] at h h'
    rw [h.1, h'.1, pairs_eq h.2 h'.2]
end
def ltL (a b : List Int) : Bool := PySem.W.dataLt (.list (a.map .int)) (.list (b.map .int))
def minLL (x : List Int) (xs : List (List Int)) : List Int := xs.foldl (fun a y => if ltL y a then y else a) x
section
variable {X : Cx}
end
section
variable {K : PySem.W.Frag} {mg : Str → Option Value}
end
end Zm
set_option Elab.async false
set_option linter.all false
set_option maxRecDepth 100000
set_option autoImplicit false
/-! ZX1: walks over lists and tuples while an exception is handled. -/
namespace Zm
open PySem PySem.Spec PyProof.Rows L2 HotX L2H
section
variable {prog : Program} {w : World} {A : Around} {E : Value → Shared → Prop} {s : Shared}
end
end Zm
set_option Elab.async false
set_option linter.all false
set_option maxRecDepth 100000
set_option maxHeartbeats 2000000
set_option autoImplicit false
/-! ZX2: lists made of lists while an exception is handled. -/
namespace Zm
open PySem PySem.Spec PyProof.Rows L2 HotX
section
variable {Y : Cx} {pz : List (Addr × Obj)} {τ : L2.St} {G : Hp} {t : Shared}
end
section
variable {Y : Cx}
end
end Zm
set_option Elab.async false
set_option linter.all false
set_option maxRecDepth 100000
set_option maxHeartbeats 2000000
set_option autoImplicit false
/-! ZX3: exceptions: raised, caught, asked what they are. -/
namespace Zm
open PySem PySem.Spec PyProof.Rows L2 HotX
/-! ### raised -/
def excB : List Value := [.type "ValueError", .type "Exception", .type "BaseException", .type "object"]
/-- what is known of a class of the program's own exceptions -/
structure ExK (K : PySem.W.Frag) (mg : Str → Option Value) (x : Str) : Prop where
  ex : ∃ C, mg x = some (.ref C) ∧ PySem.W.excIn K C excB "ValueError.__new__" = true ∧ PySem.W.keepIn K (.ref C) = true ∧ PySem.W.subIn K (.ref C) (.type "BaseException") = some true ∧ PySem.W.typeIn K (.ref C) = some (.type "type")
section
variable {X : Cx} {W : WX} {x m : Str} {p p2 pos rpos : Pos} {j : Nat}
end
/-! ### asked what it is, while it is handled -/
def exSub (c t : Str) : Bool := c == t || t == ("HallError" : Str)
/-- what is known of the class c, asked for those of ts -/
structure XTab (K : PySem.W.Frag) (mg : Str → Option Value) (ts : List Str) (c : Str) : Prop where
  cls : ∀ C, mg c = some (.ref C) → ExcC K C ∧ PySem.W.kitOne K (.ref C) (.type "ValueError") = some true ∧ ∀ t ∈ ts, ∀ q, mg t = some (.ref q) → PySem.W.kitOne K (.ref C) (.ref q) = some (exSub c t)
section
variable {X : Cx} {W : WX}
end
end Zm
set_option Elab.async false
set_option linter.all false
set_option maxRecDepth 100000
set_option maxHeartbeats 2000000
set_option autoImplicit false
/-! ZX4: a def that is called with the exception that is handled; try. -/
namespace Zm
open PySem PySem.Spec PyProof.Rows L2 HotX
/-- what a def of one argument promises there: of each class of rs, whatever the exception's address is -/
structure FnE (P : Program) (w : World) (K : PySem.W.Frag) (mg : Str → Option Value) (base : Heap) (k : Nat) (f : Addr) (fd : FuncData) (ps : List Str) (rs : List Str) (fw : Str → Int → Fn) : Prop where
  len : ∀ c a vs H Q E, spF K mg (fw c a) vs H Q E → vs.length = ps.length
  run : ∀ (c : Str) (C : Addr) (p : Addr × Obj), c ∈ rs → mg c = some (.ref C) → L2N.Zn (.ref C) none p.2 → ∀ (A : Around) (out : List PySem.Env) (s : Shared) (H : Hp) (args : Args) (us : List Value) (vs : List V) (Q : VK) (E : XK),
    L2H.RoomH k A → L2H.Hot1 A p → L2H.PinOk out H s p → Env0 P w K mg base A out s H → BindsTo s fd args (ps.zip us) → Vals vs us → spF K mg (fw c p.1) vs H Q E → codeAny (model P w) A (.call (.ref f) args) (CR (L2N.CX P w) out P w H s Q E) s
section
variable {P : Program} {w : World} {K : PySem.W.Frag} {mg : Str → Option Value} {base : Heap}
end
/-- such a def of the text -/
structure FnX (P : Program) (w : World) (K : PySem.W.Frag) (mg : Str → Option Value) (base : Heap) (k : Nat) (x : Str) (ps rs : List Str) (fw : Str → Int → Fn) : Prop where
  ex : ∃ f fd, mg x = some (.ref f) ∧ PySem.W.keepIn K (.ref f) = true ∧ Binds K fd ps [] ∧ FnE P w K mg base k f fd ps rs fw
section
variable {P : Program} {w : World} {K : PySem.W.Frag} {mg : Str → Option Value} {base : Heap}
theorem FnX.mono {j k : Nat} {x : Str} {ps rs : List Str} {fw : Str → Int → Fn} (F : FnX P w K mg base j x ps rs fw) (h : j ≤ k) : FnX P w K mg base k x ps rs fw := by
  obtain ⟨f, fd, a, b, c, d⟩ := F.ex
  exact ⟨f, fd, a, b, c, d.len, fun c C p hc gC hz A out s H args us vs Q E hr => d.run c C p hc gC hz A out s H args us vs Q E (hr.mono h)⟩
end
/-! ### x = f(e) in a suite -/
section
variable {X : Cx} {k : Nat} {x : Str} {ps rs : List Str} {fw : Str → Int → Fn} {a : Addr} {oe : Obj} {pn : List (Addr × Obj)} {q pos : Pos} {e : Expr} {t : TA}
end
/-! ### try: body, except HallError as e: x = f(e) -/
section
variable {X : Cx} {W : WX} {k ix ie : Nat} {x y n hx : Str} {ps rs : List Str} {fw : Str → Int → Fn} {g : Str → D} {body : List Stmt} {mb : MS} {np pos pos' q1 q2 q3 q4 q5 : Pos}
end
end Zm
set_option Elab.async false
set_option linter.all false
set_option maxRecDepth 100000
set_option maxHeartbeats 2000000
set_option autoImplicit false
/-! ZX5: the machine's rules while an exception is handled. -/
namespace Zm
open PySem PySem.Spec PyProof.Rows L2 HotX
section
variable {X : Cx} {W : WX} {pos p : Pos}
theorem PIH.imp {tg e : Expr} {t t' : TI} (h : L2H.PIH X tg e t) (q : ∀ σ H Q, t' σ H Q → t σ H Q) : L2H.PIH X tg e t' := ⟨fun pins s σ H Q I w => h.run pins s σ H Q I (q σ H Q w)⟩
end
/-! ### isinstance(e, (C1, C2, ..)) -/
section
variable {X : Cx} {W : WX} {pos p : Pos}
end
/-! ### a, b, .. = a list -/
section
variable {X : Cx} {pos : Pos}
theorem PGs.imp {es : List Expr} {t t' : TGs} (h : PGs X es t) (q : ∀ v σ H Q, t' v σ H Q → t v σ H Q) : PGs X es t' := ⟨fun pins s σ H vs us Q I r w => h.run pins s σ H vs us Q I r (q vs σ H Q w)⟩
theorem PG.or {e : Expr} {t t' : TG} (h : PG X e t) (h' : PG X e t') : PG X e (fun v σ H Q => t v σ H Q ∨ t' v σ H Q) := ⟨fun pins s σ H v u Q I r w => w.elim (h.run pins s σ H v u Q I r) (h'.run pins s σ H v u Q I r)⟩
end
/-! ### facts, from simpler ones -/
section
variable {K : PySem.W.Frag} {C T : Addr} {b : Bool}
end
end Zm
set_option Elab.async false
set_option linter.all false
set_option maxRecDepth 100000
set_option autoImplicit false
/-! ZX6: texts joined. -/
namespace Zm
open PySem PySem.Spec PyProof.Rows L2
section
variable {K : PySem.W.Frag} {mg : Str → Option Value} {H : Hp} {ρ : List Addr}
end
section
variable {X : Cx} {W : WX} {o e : Expr} {mo me : M} {apos cpos : Pos}
end
/-! ### a number among those of a tuple -/
end Zm
set_option Elab.async false
set_option linter.all false
set_option maxRecDepth 100000
set_option autoImplicit false
/-! ZX7: xs[j] = F(box, xs[j]). -/
namespace Zm
open PySem PySem.Spec PyProof.Rows L2
section
variable {K : PySem.W.Frag} {mg : Str → Option Value} {W : WX} {H : Hp} {σ : L2.St} {D : Ends} {fn : Fn} {i ia j : Nat}
end
section
variable {X : Cx} {W : WX} {k : Nat} {f x xa xj : Str} {ps : List Str} {m : Fn} {pos pos' p1 p2 p3 p4 p5 spos spos2 bpos : Pos}
end
end Zm
set_option Elab.async false
set_option linter.all false
set_option maxRecDepth 100000
set_option autoImplicit false
/-! ZX8: F(x).index(t, p), F telling a new tuple of numbers. -/
namespace Zm
open PySem PySem.Spec PyProof.Rows L2
/-! ### a new tuple, its object known -/
/-! ### its place of a number, from a place on -/
/-! ### defs that tell such -/
def spT (K : PySem.W.Frag) (mg : Str → Option Value) (m : Fn) : Sp := fun vs H Q E => ∃ ds s ρ a f, Wd K mg ρ s H ∧ Reps K mg H ρ ds vs a f ∧ Sp1 a f ∧ match m ds s with
  | .ok (.tup es) s' => ∃ ns, toI es = some ns ∧ ∀ (p : Addr) (H' : Hp) (ρ' : List Addr) (o : Obj), Fr a H H' ρ ρ' → Wd K mg ρ' s' H' → H' p = some (.frz o (.tup (ns.map V.int))) → o.cls = .type "tuple" → o.dict = none → Q (.ref p) H'
  | .ex x s' => ∀ cls dd H' ρ', Fr a H H' ρ ρ' → Wd K mg ρ' s' H' → RepX mg H' x cls dd → E cls dd H'
  | _ => False
structure FnT (P : Program) (w : World) (K : PySem.W.Frag) (mg : Str → Option Value) (base : Heap) (k : Nat) (x : Str) (ps : List Str) (m : Fn) : Prop where
  ex : ∃ f fd, mg x = some (.ref f) ∧ PySem.W.keepIn K (.ref f) = true ∧ Binds K fd ps [] ∧ FnG P w K mg base k f fd ps (spT K mg m)
section
variable {P : Program} {w : World} {K : PySem.W.Frag} {mg : Str → Option Value} {base : Heap}
theorem FnT.mono {j k : Nat} {x : Str} {ps : List Str} {m : Fn} (F : FnT P w K mg base j x ps m) (h : j ≤ k) : FnT P w K mg base k x ps m := by
  obtain ⟨f, fd, a, b, c, d⟩ := F.ex
  exact ⟨f, fd, a, b, c, d.mono h⟩
end
section
variable {K : PySem.W.Frag} {mg : Str → Option Value} {W : WX} {H : Hp} {σ : L2.St} {Q : VK} {fn : Fn} {m1 mt mp : M}
end
section
variable {X : Cx} {W : WX} {k : Nat} {x : Str} {ps : List Str} {fn : Fn} {e1 e2 e3 : Expr} {m1 mt mp : M} {p cp apos cpos : Pos}
end
end Zm
set_option Elab.async false
set_option linter.all false
set_option maxRecDepth 100000
set_option autoImplicit false
/-! ZX9: sorted(a tuple of numbers). -/
namespace Zm
open PySem PySem.Spec PyProof.Rows L2
end Zm
set_option Elab.async false
set_option linter.all false
set_option maxRecDepth 100000
set_option autoImplicit false
/-! ZR: repr of data in which an empty dict may stand. -/
namespace Zm
open PySem PySem.Spec PyProof.Rows L2
mutual
def pz : D → Option PyData
  | .non => some .none
  | .bl b => some (.bool b)
  | .int i => some (.int i)
  | .str x => some (.str x)
  | .tup xs => (pzs xs).map .tuple
  | .lst _ xs => (pzs xs).map .list
  | .ro ns => some (.list (ns.map .int))
  | .dic _ _ [] _ => some (.dict [])
  | .dic _ _ (_ :: _) _ => none
  | .dil _ _ _ => none
  | .box _ => none | .fn _ => none | .ty _ => none | .exc _ _ => none
def pzs : List D → Option (List PyData)
  | [] => some []
  | x :: xs => match pz x, pzs xs with
    | some y, some ys => some (y :: ys)
    | _, _ => none
end
mutual
theorem pz_fz : ∀ d : D, pz (fz d) = pz d
  | .non => rfl | .bl _ => rfl | .int _ => rfl | .str _ => rfl | .box _ => rfl | .fn _ => rfl | .ty _ => rfl | .exc _ _ => rfl | .ro _ => rfl
  | .dic _ _ [] _ => rfl | .dic _ _ (_ :: _) _ => rfl
  | .dil _ _ _ => rfl
  | .tup xs => by show (pzs (fzs xs)).map _ = (pzs xs).map _; rw [pzs_fz xs]
  | .lst o xs => by show (pzs (fzs xs)).map _ = (pzs xs).map _; rw [pzs_fz xs]
theorem pzs_fz : ∀ xs : List D, pzs (fzs xs) = pzs xs
  | [] => rfl
  | x :: xs => by
    show (match pz (fz x), pzs (fzs xs) with
      | some y, some ys => some (y :: ys)
      | _, _ => none) = (match pz x, pzs xs with
      | some y, some ys => some (y :: ys)
      | _, _ => none)
    rw [pz_fz x, pzs_fz xs]
end
mutual
theorem pz_pd : ∀ {d : D} {x : PyData}, pd d = some x → pz d = some x
  | .non, _, h => h | .bl _, _, h => h | .int _, _, h => h | .str _, _, h => h | .ro _, _, h => h
  | .box _, _, h => by cases h
  | .fn _, _, h => by cases h
  | .ty _, _, h => by cases h
  | .exc _ _, _, h => by cases h
  | .dic _ _ _ _, _, h => by cases h
  | .dil _ _ _, _, h => by cases h
  | .tup xs, _, h => by
    rw [pd, Option.map_eq_some_iff] at h
    obtain ⟨ys, e, rfl⟩ := h
    rw [pz, pzs_pd e]; rfl
  | .lst o xs, _, h => by
    rw [pd, Option.map_eq_some_iff] at h
    obtain ⟨ys, e, rfl⟩ := h
    rw [pz, pzs_pd e]; rfl
theorem pzs_pd : ∀ {ds : List D} {xs : List PyData}, pds ds = some xs → pzs ds = some xs
  | [], _, h => h
  | d :: ds, _, h => by
    rw [pds] at h
    cases e1 : pd d with
    | none => rw [e1] at h; cases h
    | some y =>
      cases e2 : pds ds with
      | none => rw [e1, e2] at h; cases h
      | some ys =>
        rw [e1, e2] at h; cases h
        rw [pzs, pz_pd e1, pzs_pd e2]
end
/-! data, an empty dict may stand in it -/
mutual
inductive Sh (K : PySem.W.Frag) (H : Hp) : V → PyData → Prop
  | non : Sh K H .non .none
  | bl (b : Bool) : Sh K H (.bl b) (.bool b)
  | int (i : Int) : Sh K H (.int i) (.int i)
  | str (x : Str) : Sh K H (.str x) (.str x)
  | lst {a : Addr} {xs : List V} {ds : List PyData} : SqL K H a xs → ShL K H xs ds → Sh K H (.ref a) (.list ds)
  | tup {a : Addr} {xs : List V} {ds : List PyData} : SqT K H a xs → ShL K H xs ds → Sh K H (.ref a) (.tuple ds)
  | dic {a : Addr} {t : Bool} {ws : List V} : DicRd H t a [] ws → Sh K H (.ref a) (.dict [])
inductive ShL (K : PySem.W.Frag) (H : Hp) : List V → List PyData → Prop
  | nil : ShL K H [] []
  | cons {v : V} {vs : List V} {d : PyData} {ds : List PyData} : Sh K H v d → ShL K H vs ds → ShL K H (v :: vs) (d :: ds)
end
theorem ShL.ints {K : PySem.W.Frag} {H : Hp} : ∀ ns : List Int, ShL K H (ns.map V.int) (ns.map .int)
  | [] => .nil
  | n :: ns => .cons (.int n) (ShL.ints ns)
section
variable {K : PySem.W.Frag} {mg : Str → Option Value} {H : Hp} {ρ : List Addr}
mutual
theorem Rep.sh : ∀ {d : D} {v : V} {a f : Cnt} {x : PyData}, pz d = some x → Rep K mg H ρ d v a f → Sh K H v x
  | .non, _, _, _, _, e, h => by cases h; cases e; exact .non
  | .bl _, _, _, _, _, e, h => by cases h; cases e; exact .bl _
  | .int _, _, _, _, _, e, h => by cases h; cases e; exact .int _
  | .str _, _, _, _, _, e, h => by cases h; cases e; exact .str _
  | .tup xs, _, _, _, _, e, h => by
    rw [pz, Option.map_eq_some_iff] at e
    obtain ⟨ys, e1, rfl⟩ := e
    cases h with
    | tup q t => exact .tup (SqT.of q) (Reps.sh e1 t)
  | .lst _ xs, _, _, _, _, e, h => by
    rw [pz, Option.map_eq_some_iff] at e
    obtain ⟨ys, e1, rfl⟩ := e
    obtain ⟨p, vs, a1, f1, rfl, hp, t, _⟩ := inv_lst h
    exact .lst (SqL.of hp) (Reps.sh e1 t)
  | .ro ns, _, _, _, _, e, h => by
    cases e
    cases h with
    | ro q _ _ => exact .lst q.L (ShL.ints ns)
  | .dic _ _ [] _, _, _, _, _, e, h => by
    cases e
    obtain ⟨p, ws, rfl, hd, _⟩ := inv_dic h
    exact .dic hd
  | .dic _ _ (_ :: _) _, _, _, _, _, e, _ => by cases e
  | .dil _ _ _, _, _, _, _, e, _ => by cases e
  | .box _, _, _, _, _, e, _ => by cases e
  | .fn _, _, _, _, _, e, _ => by cases e
  | .ty _, _, _, _, _, e, _ => by cases e
  | .exc _ _, _, _, _, _, e, _ => by cases e
theorem Reps.sh : ∀ {ds : List D} {vs : List V} {a f : Cnt} {xs : List PyData}, pzs ds = some xs → Reps K mg H ρ ds vs a f → ShL K H vs xs
  | [], _, _, _, _, e, h => by cases h; cases e; exact .nil
  | d :: ds, _, _, _, _, e, h => by
    rw [pzs] at e
    cases e1 : pz d with
    | none => rw [e1] at e; cases e
    | some y =>
      cases e2 : pzs ds with
      | none => rw [e1, e2] at e; cases e
      | some ys =>
        rw [e1, e2] at e
        cases e
        cases h with
        | cons h t _ _ => exact .cons (Rep.sh e1 h) (Reps.sh e2 t)
end
end
section
variable {X : Cx} {pins : List (Addr × Obj)} {σ : L2.St} {H : Hp} {s : Shared}
/-- how an empty dict stands in the heap -/
theorem dic_nil (I : Inv X pins σ H s) {t : Bool} {a : Addr} {ws : List V} (h : DicRd H t a [] ws) : (a == sysModules) = false ∧ ∃ o ep, s.heap.get? a = some o ∧ o.cls = .type "dict" ∧ o.data = .dict #[] ep := by
  obtain ⟨u, rd, q⟩ := h
  cases t with
  | false =>
    obtain ⟨kvs, rfl, e1, _⟩ := q
    cases kvs with
    | cons k ks => cases e1
    | nil =>
      obtain ⟨_, hs, vs, kv, o, es, ep, h1, h2, h3, _, h5, _⟩ := dk_rd I.hok rd
      refine ⟨hs, o, ep, h1, h2.1, ?_⟩
      cases kv
      have : es.toList = [] := by
        generalize es.toList = l at h5
        cases h5; rfl
      rw [h3, Array.toList_eq_nil_iff.mp this]
  | true =>
    obtain ⟨kvs, rfl, e1, _⟩ := q
    cases kvs with
    | cons k ks => cases e1
    | nil =>
      obtain ⟨_, hs, xs, kv, o, es, ep, h1, h2, h3, h4, _⟩ := dt_rd I.hok rd
      refine ⟨hs, o, ep, h1, h2.1, ?_⟩
      cases kv
      rw [h3, Array.toList_eq_nil_iff.mp (show es.toList = [] from h4)]
abbrev RdAt (X : Cx) (s : Shared) (u : Value) (d : PyData) : Prop := ∃ as bs, Reads s.heap u d as ∧ ReadAtMost s.heap d.depth bs ∧ ReprK X.prog X.w bs s.heap d.depth u d.shown
abbrev RdAll (X : Cx) (s : Shared) (us : List Value) (ds : List PyData) : Prop := ∃ as bs, ReadsAll s.heap us ds as ∧ ReadAtMost s.heap (PyData.depthAll ds) bs ∧ ReprAllK X.prog X.w bs s.heap (PyData.depthAll ds) us (PyData.shownAll ds)
mutual
theorem Sh.rd (I : Inv X pins σ H s) : ∀ {v : V} {d : PyData} {u : Value}, Sh X.K H v d → RelV v u → d.showable = true → d.shown.length ≤ sizeLine → RdAt X s u d
  | _, _, _, .non, r, _, _ => by
    cases r
    exact ⟨_, [], .none, fun _ z => (List.not_mem_nil z).elim, by rw [PyData.shown]; exact .of_is .none _ _ _⟩
  | _, _, _, .bl b, r, _, _ => by
    cases r
    exact ⟨_, [], .bool b, fun _ z => (List.not_mem_nil z).elim, by rw [PyData.shown]; exact .of_is (.bool b) _ _ _⟩
  | _, _, _, .int i, r, hs, _ => by
    obtain ⟨t, rfl⟩ := r
    rw [PyData.showable, decide_eq_true_eq] at hs
    exact ⟨_, [], .int i t, fun _ z => (List.not_mem_nil z).elim, by rw [PyData.shown]; exact .of_is (ReprIs.int t hs) _ _ _⟩
  | _, _, _, .str x, r, _, hz => by
    obtain ⟨t, rfl⟩ := r
    rw [PyData.shown] at hz
    exact ⟨_, [], .str x t, fun _ z => (List.not_mem_nil z).elim, by rw [PyData.shown]; exact .of_is (ReprIs.str x t hz) _ _ _⟩
  | _, _, _, .lst (ds := ds) hq ha, r, hs, hz => by
    cases r
    rw [PyData.showable] at hs
    rw [PyData.shown] at hz
    obtain ⟨its, rv, ⟨o, n, ho, hc, _, hd⟩, _⟩ := I.list hq
    obtain ⟨as, bs, q1, q2, q3⟩ := ShL.rd I ha rv hs fun t ht => Nat.le_trans (listText_mem_le ht) hz
    have rr : Reads s.heap (.ref _) (.list ds) (_ :: as) := Reads.list ho hc hd q1
    have deep : PyData.depthAll ds < (PyData.list ds).depth := by rw [PyData.depth]; omega
    have out := not_mem_of_deeper rr deep q2
    refine ⟨_, _, rr, ReadAtMost.cons rr (Nat.le_of_lt deep) q2, ?_⟩
    rw [PyData.depth, PyData.shown]
    cases its with
    | nil =>
      cases q1
      rw [PyData.shownAll, listText_nil]
      exact .listEmpty ho hc hd
    | cons y ys =>
      refine .list ho hc hd out ?_ fun i z e => q3.item i z (by simpa using e)
      rw [q3.length_eq]; simp
  | _, _, _, .tup (ds := ds) hq ha, r, hs, hz => by
    cases r
    rw [PyData.showable] at hs
    rw [PyData.shown] at hz
    obtain ⟨its, rv, ⟨o, ho, hc, n, hd⟩, _⟩ := I.tuple hq
    obtain ⟨as, bs, q1, q2, q3⟩ := ShL.rd I ha rv hs fun t ht => Nat.le_trans (tupleText_mem_le ht) hz
    have rr : Reads s.heap (.ref _) (.tuple ds) as := Reads.tuple ho hc hd q1
    have deep : PyData.depthAll ds < (PyData.tuple ds).depth := by rw [PyData.depth]; omega
    have out := not_mem_of_deeper rr deep q2
    refine ⟨_, _, rr, ReadAtMost.cons rr (Nat.le_of_lt deep) q2, ?_⟩
    rw [PyData.depth, PyData.shown]
    exact .tuple ho hc hd out q3
  | _, _, _, .dic h, r, _, _ => by
    cases r
    obtain ⟨hs, o, ep, h1, h2, h3⟩ := dic_nil I h
    have rr : Reads s.heap (.ref _) (.dict []) _ := Reads.dict h1 h2 h3 (.nil) (.nil)
    refine ⟨_, _, rr, ReadAtMost.cons rr (Nat.zero_le _) (n := 0) (bs := []) fun _ z => (List.not_mem_nil z).elim, ?_⟩
    rw [PyData.depth, PyData.shown, PyData.shownKv]
    exact .dict h1 h2 h3 hs List.not_mem_nil .nil
theorem ShL.rd (I : Inv X pins σ H s) : ∀ {vs : List V} {ds : List PyData} {us : List Value}, ShL X.K H vs ds → Vals vs us → PyData.showableAll ds = true → (∀ t ∈ PyData.shownAll ds, t.length ≤ sizeLine) → RdAll X s us ds
  | _, _, _, .nil, r, _, _ => by
    cases r
    exact ⟨_, [], .nil, fun _ z => (List.not_mem_nil z).elim, by rw [PyData.shownAll]; exact .nil⟩
  | _, _, _, .cons h1 h2, r, hs, hz => by
    cases r with
    | cons r1 r2 =>
      rw [PyData.showableAll, Bool.and_eq_true] at hs
      rw [PyData.shownAll] at hz
      obtain ⟨as, bs, a1, a2, a3⟩ := Sh.rd I h1 r1 hs.1 (hz _ List.mem_cons_self)
      obtain ⟨as', bs', b1, b2, b3⟩ := ShL.rd I h2 r2 hs.2 fun t ht => hz t (List.mem_cons_of_mem _ ht)
      refine ⟨_, bs ++ bs', .cons a1 b1, ?_, ?_⟩
      · rw [PyData.depthAll]
        exact (a2.mono (Nat.le_max_left _ _)).append (b2.mono (Nat.le_max_right _ _))
      · rw [PyData.depthAll, PyData.shownAll]
        exact .cons ((a3.more fun _ z => List.mem_append_left _ z).level_le (Nat.le_max_left _ _)) (b3.more_le (fun _ z => List.mem_append_right _ z) (Nat.le_max_right _ _))
end
end
def gReprZ : Sto → List D → Option D := fun _ ds => match ds with
  | [d] => (pz d).bind fun x => if x.showable = true ∧ x.depth ≤ 60 ∧ x.shown.length ≤ sizeLine then some (.str x.shown) else none
  | _ => none
section
variable {X : Cx} {K : PySem.W.Frag} {mg : Str → Option Value}
end
end Zm
set_option Elab.async false
set_option linter.all false
set_option maxRecDepth 100000
set_option autoImplicit false
/-! Z45: for k, v in d.items(), the keys tuples. -/
namespace Zm
open PySem PySem.Spec PyProof.Rows L2
section
variable {X : Cx} {pins : List (Addr × Obj)} {σ : L2.St} {H : Hp} {s : Shared} {d : Addr} {o : Obj}
end
section
variable {P : Program} {w : World} {K : PySem.W.Frag} {d : Addr} {o : Obj} {es : Array DictEntry} {ep : Nat} {elts : List Expr} {kk : Nat} {tpos : Pos}
end
section
variable {X : Cx} {e : Expr} {td : TE} {apos cpos : Pos}
end
end Zm
set_option Elab.async false
set_option linter.all false
set_option maxRecDepth 100000
set_option autoImplicit false
/-! Z46: dicts of lists: name = [.. for k, v in d.items() if ..]; the dict stays our own. -/
namespace Zm
open PySem PySem.Spec PyProof.Rows L2
mutual
/-- no list of our own within -/
def isF : D → Bool
  | .tup xs => isFs xs
  | .lst o xs => !o && isFs xs
  | .dic o _ _ _ => !o
  | .dil o _ _ => !o
  | .non => true | .bl _ => true | .int _ => true | .str _ => true | .box _ => true | .fn _ => true | .ty _ => true | .exc _ _ => true | .ro _ => true
def isFs : List D → Bool
  | [] => true
  | x :: xs => isF x && isFs xs
end
mutual
/-- no dict within -/
def noDc : D → Bool
  | .tup xs => noDcs xs
  | .lst _ xs => noDcs xs
  | .dic _ _ _ _ => false
  | .dil _ _ _ => false
  | .non => true | .bl _ => true | .int _ => true | .str _ => true | .box _ => true | .fn _ => true | .ty _ => true | .exc _ _ => true | .ro _ => true
def noDcs : List D → Bool
  | [] => true
  | x :: xs => noDc x && noDcs xs
end
section
variable {K : PySem.W.Frag} {mg : Str → Option Value} {H : Hp} {ρ : List Addr}
mutual
theorem Rep.isF : ∀ {d : D} {v : V} {A F : Cnt}, Rep K mg H ρ d v A F → isF d = true → ∀ x, A x = 0
  | _, _, _, _, .non a _, _, x => a x
  | _, _, _, _, .bl a _, _, x => a x
  | _, _, _, _, .int a _, _, x => a x
  | _, _, _, _, .str a _, _, x => a x
  | _, _, _, _, .tup _ t, h, x => Reps.isF t (by simpa [Zm.isF] using h) x
  | _, _, _, _, .own _ _ _ _, h, _ => by simp [Zm.isF] at h
  | _, _, _, _, .frz _ _ t _, h, x => Reps.isF t (by simpa [Zm.isF] using h) x
  | _, _, _, _, .ro _ a _, _, x => a x
  | _, _, _, _, .box _ a _, _, x => a x
  | _, _, _, _, .fn _ _ a _, _, x => a x
  | _, _, _, _, .ty a _, _, x => a x
  | _, _, _, _, .exc _ a _, _, x => a x
  | _, _, _, _, .dicO _ _ _ _ _ _, h, _ => by simp [Zm.isF] at h
  | _, _, _, _, .dicF _ _ _ _ e1 _, _, x => e1 x
  | _, _, _, _, .dilO _ _ _ _ _ _, h, _ => by simp [Zm.isF] at h
  | _, _, _, _, .dilF _ _ _ _ e1 _, _, x => e1 x
theorem Reps.isF : ∀ {ds : List D} {vs : List V} {A F : Cnt}, Reps K mg H ρ ds vs A F → isFs ds = true → ∀ x, A x = 0
  | _, _, _, _, .nil a _, _, x => a x
  | _, _, _, _, .cons h t e1 _, hn, x => by
    simp only [isFs, Bool.and_eq_true] at hn
    rw [e1, Rep.isF h hn.1, Reps.isF t hn.2]
end
mutual
theorem Rep.lsts : ∀ {d : D} {v : V} {A F : Cnt}, Rep K mg H ρ d v A F → noDc d = true → ∀ x, 1 ≤ A x + F x → ∃ l, H x = some (.lst l)
  | _, _, _, _, .non a f, _, x, hx => by rw [a, f] at hx; omega
  | _, _, _, _, .bl a f, _, x, hx => by rw [a, f] at hx; omega
  | _, _, _, _, .int a f, _, x, hx => by rw [a, f] at hx; omega
  | _, _, _, _, .str a f, _, x, hx => by rw [a, f] at hx; omega
  | _, _, _, _, .tup _ t, h, x, hx => Reps.lsts t (by simpa [noDc] using h) x hx
  | _, _, _, _, .own (p := p) h _ t e, hn, x, hx => by
    by_cases q : x = p
    · subst q; exact ⟨_, h⟩
    · rw [e, cp_ne q] at hx
      exact Reps.lsts t (by simpa [noDc] using hn) x (by omega)
  | _, _, _, _, .frz (p := p) h _ t e, hn, x, hx => by
    by_cases q : x = p
    · subst q; exact ⟨_, h⟩
    · rw [e, cp_ne q] at hx
      exact Reps.lsts t (by simpa [noDc] using hn) x (by omega)
  | _, _, _, _, .ro _ a f, _, x, hx => by rw [a, f] at hx; omega
  | _, _, _, _, .box _ a f, _, x, hx => by rw [a, f] at hx; omega
  | _, _, _, _, .fn _ _ a f, _, x, hx => by rw [a, f] at hx; omega
  | _, _, _, _, .ty a f, _, x, hx => by rw [a, f] at hx; omega
  | _, _, _, _, .exc _ a f, _, x, hx => by rw [a, f] at hx; omega
  | _, _, _, _, .dicO _ _ _ _ _ _, hn, _, _ => by simp [noDc] at hn
  | _, _, _, _, .dicF _ _ _ _ _ _, hn, _, _ => by simp [noDc] at hn
  | _, _, _, _, .dilO _ _ _ _ _ _, hn, _, _ => by simp [noDc] at hn
  | _, _, _, _, .dilF _ _ _ _ _ _, hn, _, _ => by simp [noDc] at hn
theorem Reps.lsts : ∀ {ds : List D} {vs : List V} {A F : Cnt}, Reps K mg H ρ ds vs A F → noDcs ds = true → ∀ x, 1 ≤ A x + F x → ∃ l, H x = some (.lst l)
  | _, _, _, _, .nil a f, _, x, hx => by rw [a, f] at hx; omega
  | _, _, _, _, .cons (a := a) (f := f) h t e1 e2, hn, x, hx => by
    simp only [noDcs, Bool.and_eq_true] at hn
    rw [e1, e2] at hx
    by_cases z : 1 ≤ a x + f x
    · exact Rep.lsts h hn.1 x z
    · exact Reps.lsts t hn.2 x (by omega)
end
end
section
variable {K : PySem.W.Frag} {mg : Str → Option Value} {H H1 : Hp} {ρ ρ1 : List Addr} {σm : Env} {σ : L2.St} {s s1 : Sto} {A F a f : Cnt} {p : Addr} {od : Obj} {W : WX}
end
section
variable {X : Cx} {W : WX} {iter elt : Expr} {elts : List Expr} {kk : Nat} {tpos : Pos} {ifs : List Expr} {tg : Tg} {t : T} {m : M} {pos py spos apos cpos xpos : Pos} {scope : Scope} {own : List (Str × Nat)} {y x : Str}
end
end Zm
set_option Elab.async false
set_option linter.all false
set_option maxRecDepth 100000
set_option autoImplicit false
/-! Z47: max(.., key=len) of a list of lists, of a dict's lists. -/
namespace Zm
open PySem PySem.Spec PyProof.Rows L2
section
variable {prog : Program} {w : World} {A : Around} {E : Value → Shared → Prop} {s : Shared}
end
section
variable {X : Cx}
end
end Zm
set_option Elab.async false
set_option linter.all false
set_option maxRecDepth 100000
set_option autoImplicit false
/-! Z48: dicts of lists: made, written; the longest of lists. -/
namespace Zm
open PySem PySem.Spec PyProof.Rows L2
mutual
theorem fz2 : ∀ d : D, fz (fz d) = fz d
  | .tup xs => by simp [fzs2 xs]
  | .lst _ xs => by simp [fzs2 xs]
  | .dic _ _ _ _ => rfl | .dil _ _ _ => rfl
  | .non => rfl | .bl _ => rfl | .int _ => rfl | .str _ => rfl | .box _ => rfl | .fn _ => rfl | .ty _ => rfl | .exc _ _ => rfl | .ro _ => rfl
theorem fzs2 : ∀ xs : List D, fzs (fzs xs) = fzs xs
  | [] => rfl
  | x :: xs => by simp [fz2 x, fzs2 xs]
end
section
variable {K : PySem.W.Frag} {mg : Str → Option Value} {H H1 : Hp} {ρ ρ1 : List Addr} {σm : Env} {σ : L2.St} {s s1 : Sto} {A F a f : Cnt} {W : WX}
end
section
variable {X : Cx} {W : WX} {e : Expr} {m : M} {p p2 pos kpos : Pos}
/-! ### d != {} -/
end
section
variable {K : PySem.W.Frag} {mg : Str → Option Value} {H H1 : Hp} {ρ ρ1 : List Addr} {σm : Env} {σ : L2.St} {s s1 : Sto} {A F a f : Cnt} {W : WX}
/-! ### d[k] = a new list -/
end
end Zm
set_option Elab.async false
set_option linter.all false
set_option maxRecDepth 100000
set_option autoImplicit false
/-! Z49: d[k] = a new list: the rule. -/
namespace Zm
open PySem PySem.Spec PyProof.Rows L2
section
variable {K : PySem.W.Frag} {mg : Str → Option Value} {H : Hp} {σ : L2.St} {W : WX}
end
section
variable {X : Cx} {W : WX} {e ei : Expr} {m mi : M} {pos pos' spos : Pos} {x : Str}
end
end Zm
set_option Elab.async false
set_option linter.all false
set_option maxRecDepth 100000
set_option autoImplicit false
namespace Zm
open PySem PySem.Spec PyProof.Rows L2
def f__law_dip : Fn := mkFn 2 4 (mSeq (mIf (tV (mOp gGt [(mOp gIx [(mVar 0), (mC (.int 0))]), (mC (.int 0))])) (mSeq (mSetD [true, true] 2 (mOp gMod [(mOp gIx [(mVar 0), (mC (.int 0))]), (mVar 1)])) (mSeq (mSt [true, true] 0 (mC (.int 0)) (mOp gDiv [(mOp gIx [(mVar 0), (mC (.int 0))]), (mVar 1)])) (mRetV 2))) mNil) (mSeq (mSt [true] 0 (mC (.int 2)) (mOp gAdd [(mOp gIx [(mVar 0), (mC (.int 2))]), (mC (.int 1))])) (mSeq (mSetD [true] 3 (mOp gMod [(mOp gPow [(mOp gAdd [(mOp gIx [(mVar 0), (mC (.int 1))]), (mOp gMul [(mC (.int 49979687)), (mOp gIx [(mVar 0), (mC (.int 2))])])]), (mC (.int 3))]), (mOp gAdd [(mOp gPow [(mC (.int 10)), (mC (.int 38))]), (mC (.int 133))])])) (mSeq (mSetD [true, false, false, true] 3 (mOp gMod [(mOp gPow [(mOp gAdd [(mVar 3), (mOp gMul [(mC (.int 160481183)), (mOp gIx [(mVar 0), (mC (.int 2))])])]), (mC (.int 3))]), (mOp gAdd [(mOp gPow [(mC (.int 10)), (mC (.int 35))]), (mC (.int 69))])])) (mRet (mOp gMod [(mOp gDiv [(mVar 3), (mC (.int 131071))]), (mVar 1)]))))))
/-- for spot in range(many) -/
def f__law_hall_b1 : MS := (mUpd uApp [true, false, false, true, true] 8 [(mOp gIx [(mOp gLst [(mCall f__law_dip [(mVar 0), (mC (.int 4))]), (mCall f__law_dip [(mVar 0), (mC (.int 12))]), (mCall f__law_dip [(mVar 0), (mVar 3)])]), (mCall f__law_dip [(mVar 0), (mOp gAdd [(mC (.int 1)), (mVar 4)])])])])
/-- for k in range(1 + _law_dip(well, counters)) -/
def f__law_hall_b2 : MS := (mSeq (mSetD [] 8 (mOp gLst [])) (mSeq (mForP (iR1 [(mVar 5)]) (.nm 9) f__law_hall_b1) (mUpd uApp [false, false, false, false, false, false, false, false, true] 6 [(mOp gTuple [(mVar 8)])])))
def f__law_hall : Fn := mkFn 4 10 (mSeq (mSetD [true] 4 (mCall f__law_dip [(mVar 0), (mC (.int 3))])) (mSeq (mSetD [true, false, true] 5 (mOp gAdd [(mC (.int 1)), (mCall f__law_dip [(mVar 0), (mVar 2)])])) (mSeq (mSetD [] 6 (mOp gLst [])) (mSeq (mForP (iR1 [(mOp gAdd [(mC (.int 1)), (mCall f__law_dip [(mVar 0), (mVar 1)])])]) (.nm 7) f__law_hall_b2) (mRet (mOp gTuple [(mVar 6)]))))))
def f_is_whole : Fn := mkFn 1 1 (mRet (mAnd (mOp gIsi [(mVar 0), (mC (.ty "int"))]) (mNot (mOp gIsi [(mVar 0), (mC (.ty "bool"))]))))
def f_is_amount : Fn := mkFn 1 1 (mRet (mAnd (mCall f_is_whole [(mVar 0)]) (mOp gGe [(mVar 0), (mC (.int 0))])))
/-- [is_amount(one) for one in thing] -/
def f_is_row_c1 : M := mLc (iSeq (mVar 0)) (.nm 2) [2] tTrue (mCall f_is_amount [(mVar 2)])
def f_is_row : Fn := mkFn 2 3 (mRet (mAnd (mOp gIsi [(mVar 0), (mC (.ty "tuple"))]) (mAnd (mOp gEq [(mOp gLen [(mVar 0)]), (mVar 1)]) (mOp gAll [f_is_row_c1]))))
/-- [is_row(row, len(thing[0])) for row in thing] -/
def f_is_hall_c1 : M := mLc (iSeq (mVar 0)) (.nm 1) [1] tTrue (mCall f_is_row [(mVar 1), (mOp gLen [(mOp gIx [(mVar 0), (mC (.int 0))])])])
def f_is_hall : Fn := mkFn 1 2 (mSeq (mIf (tOr (tNot (tV (mOp gIsi [(mVar 0), (mC (.ty "tuple"))]))) (tOr (tNot (tV (mChain gLe gLe (mC (.int 1)) (mOp gLen [(mVar 0)]) (mC (.int 8))))) (tNot (tV (mOp gIsi [(mOp gIx [(mVar 0), (mC (.int 0))]), (mC (.ty "tuple"))]))))) (mRet (mC (.bl false))) mNil) (mRet (mAnd (mChain gLe gLe (mC (.int 1)) (mOp gLen [(mOp gIx [(mVar 0), (mC (.int 0))])]) (mC (.int 8))) (mOp gAll [f_is_hall_c1]))))
def f_need_hall : Fn := mkFn 1 1 (mIf (tNot (tV (mCall f_is_hall [(mVar 0)]))) mBadS mNil)
def f__law_cell_at : Fn := mkFn 2 2 (mSeq (mIf (tV (mOp gLt [(mVar 1), (mOp gLen [(mVar 0)])])) (mRet (mOp gIx [(mVar 0), (mVar 1)])) mNil) (mRet (mC (.int 0))))
def f__law_bag : Fn := mkFn 1 1 (mRet (mBox [(mOp gMax2 [(mC (.int 1)), (mOp gSub [(mVar 0), (mOp gPow [(mC (.int 10)), (mC (.int 18))])])]), (mOp gMod [(mVar 0), (mOp gAdd [(mOp gPow [(mC (.int 10)), (mC (.int 40))]), (mC (.int 121))])]), (mC (.int 0))]))
def f__law_draw : Fn := mkFn 2 3 (mSeq (mIf (tV (mOp gGt [(mOp gIx [(mVar 0), (mC (.int 0))]), (mC (.int 1))])) (mSeq (mSetD [true, true] 2 (mOp gMod [(mOp gIx [(mVar 0), (mC (.int 0))]), (mVar 1)])) (mSeq (mSt [true, true] 0 (mC (.int 0)) (mOp gDiv [(mOp gIx [(mVar 0), (mC (.int 0))]), (mVar 1)])) (mRetV 2))) mNil) (mSeq (mSt [true] 0 (mC (.int 2)) (mOp gAdd [(mOp gIx [(mVar 0), (mC (.int 2))]), (mC (.int 1))])) (mSeq (mSetD [true] 2 (mOp gMod [(mOp gPow [(mOp gAdd [(mOp gIx [(mVar 0), (mC (.int 1))]), (mOp gMul [(mOp gIx [(mVar 0), (mC (.int 2))]), (mC (.int 982451653))])]), (mC (.int 5))]), (mOp gAdd [(mOp gPow [(mC (.int 10)), (mC (.int 39))]), (mC (.int 3))])])) (mSeq (mSetD [true, false, true] 2 (mOp gMod [(mOp gPow [(mOp gAdd [(mVar 2), (mOp gMul [(mOp gIx [(mVar 0), (mC (.int 2))]), (mC (.int 15485863))])]), (mC (.int 3))]), (mOp gAdd [(mOp gPow [(mC (.int 10)), (mC (.int 36))]), (mC (.int 67))])])) (mRet (mOp gMod [(mOp gDiv [(mVar 2), (mC (.int 1024))]), (mVar 1)]))))))
/-- [_law_alike(found[k], due[k]) for k in range(len(due))] -/
def f__law_alike_8dc4_c1 (R : Fn) : M := mLc (iR1 [(mOp gLen [(mVar 1)])]) (.nm 2) [2] tTrue (mCall R [(mOp gIx [(mVar 0), (mVar 2)]), (mOp gIx [(mVar 1), (mVar 2)])])
def f__law_alike_8dc4_body (R : Fn) : Fn := mkFn 2 3 (mSeq (mIf (tV (mOp gIsi2 [(mVar 1), (mOp gTup [(mC (.ty "list")), (mC (.ty "tuple"))])])) (mSeq (mIf (tV (mOp gNe [(mOp gIsi [(mVar 0), (mC (.ty "list"))]), (mOp gIsi [(mVar 1), (mC (.ty "list"))])])) (mRet (mC (.bl false))) mNil) (mSeq (mIf (tV (mOp gNe [(mOp gIsi [(mVar 0), (mC (.ty "tuple"))]), (mOp gIsi [(mVar 1), (mC (.ty "tuple"))])])) (mRet (mC (.bl false))) mNil) (mSeq (mIf (tV (mOp gNe [(mOp gLen [(mVar 0)]), (mOp gLen [(mVar 1)])])) (mRet (mC (.bl false))) mNil) (mRet (mOp gAll [(f__law_alike_8dc4_c1 R)]))))) mNil) (mSeq (mIf (tOr (tV (mOp gIsN [(mVar 0), (mC .non)])) (tV (mOp gIsN [(mVar 1), (mC .non)]))) (mRet (mAnd (mOp gIsN [(mVar 0), (mC .non)]) (mOp gIsN [(mVar 1), (mC .non)]))) mNil) (mRet (mAnd (mOp gEq [(mOp gIsi [(mVar 0), (mC (.ty "bool"))]), (mOp gIsi [(mVar 1), (mC (.ty "bool"))])]) (mOp gEq [(mVar 0), (mVar 1)])))))
def f__law_alike_8dc4_r : Nat → Fn
  | 0 => badF
  | n + 1 => f__law_alike_8dc4_body (f__law_alike_8dc4_r n)
def f__law_alike_8dc4 : Fn := f__law_alike_8dc4_r 8
def f__law_minutes : Fn := mkFn 2 3 (mSeq (mSetD [false, true] 2 (mOp gIx [(mOp gLst [(mC (.int 2)), (mC (.int 4)), (mC (.int 20)), (mOp gPow [(mC (.int 10)), (mC (.int 14))]), (mC (.int 0))]), (mVar 1)])) (mSeq (mIf (tV (mOp gEq [(mVar 2), (mC (.int 0))])) (mSetD [true] 2 (mOp gIx [(mOp gLst [(mC (.int 1)), (mC (.int 2)), (mC (.int 4)), (mC (.int 30)), (mOp gPow [(mC (.int 10)), (mC (.int 14))])]), (mCall f__law_draw [(mVar 0), (mC (.int 5))])])) mNil) (mRet (mOp gMul [(mCall f__law_draw [(mVar 0), (mVar 2)]), (mOp gMin2 [(mC (.int 1)), (mCall f__law_draw [(mVar 0), (mC (.int 4))])])]))))
/-- [_law_minutes(bag, lot) for k in range(long)] -/
def f__law_hall_9811_c1 : M := mLc (iR1 [(mVar 5)]) (.nm 7) [7] tTrue (mCall f__law_minutes [(mVar 0), (mVar 6)])
/-- [tuple([_law_minutes(bag, lot) for k in range(long)]) for row in range(size)] -/
def f__law_hall_9811_c2 : M := mLc (iR1 [(mVar 4)]) (.nm 8) [8] tTrue (mOp gTuple [f__law_hall_9811_c1])
def f__law_hall_9811 : Fn := mkFn 4 9 (mSeq (mUnpD [true, true, true] (.t2 (.nm 4) (.nm 5)) (mOp gTup [(mOp gAdd [(mC (.int 1)), (mCall f__law_draw [(mVar 0), (mVar 1)])]), (mOp gAdd [(mC (.int 1)), (mCall f__law_draw [(mVar 0), (mVar 2)])])])) (mSeq (mSetD [true, false, false, true] 6 (mCall f__law_draw [(mVar 0), (mIfE (tV (mVar 3)) (mC (.int 2)) (mC (.int 5)))])) (mRet (mOp gTuple [f__law_hall_9811_c2]))))
/-- [_law_alike(found[k], due[k]) for k in range(len(due))] -/
def f__law_alike_c1 (R : Fn) : M := mLc (iR1 [(mOp gLen [(mVar 1)])]) (.nm 2) [2] tTrue (mCall R [(mOp gIx [(mVar 0), (mVar 2)]), (mOp gIx [(mVar 1), (mVar 2)])])
def f__law_alike_body (R : Fn) : Fn := mkFn 2 3 (mSeq (mIf (tV (mOp gIsi2 [(mVar 1), (mOp gTup [(mC (.ty "list")), (mC (.ty "tuple"))])])) (mSeq (mIf (tOr (tV (mOp gNe [(mOp gIsi [(mVar 0), (mC (.ty "list"))]), (mOp gIsi [(mVar 1), (mC (.ty "list"))])])) (tNot (tV (mOp gIsi2 [(mVar 0), (mOp gTup [(mC (.ty "list")), (mC (.ty "tuple"))])])))) (mRet (mC (.bl false))) mNil) (mSeq (mIf (tV (mOp gNe [(mOp gLen [(mVar 0)]), (mOp gLen [(mVar 1)])])) (mRet (mC (.bl false))) mNil) (mRet (mOp gAll [(f__law_alike_c1 R)])))) mNil) (mSeq (mIf (tOr (tV (mOp gIsi [(mVar 1), (mC (.ty "bool"))])) (tV (mOp gIsi [(mVar 0), (mC (.ty "bool"))]))) (mRet (mAnd (mOp gIsi [(mVar 1), (mC (.ty "bool"))]) (mAnd (mOp gIsi [(mVar 0), (mC (.ty "bool"))]) (mOp gEq [(mVar 0), (mVar 1)])))) mNil) (mRet (mOp gEq [(mVar 0), (mVar 1)]))))
def f__law_alike_r : Nat → Fn
  | 0 => badF
  | n + 1 => f__law_alike_body (f__law_alike_r n)
def f__law_alike : Fn := f__law_alike_r 8
/-- for (place, (one, other)) in enumerate(zip(above, beside)) -/
def f_next_shape_b1 : MS := (mSeq (mUpd uApp [false, false, false, false, false, true, false, true, true] 4 [(mOp gAdd [(mOp gMax2 [(mVar 7), (mVar 8)]), (mVar 5)])]) (mSetD [true, false, false, false, false, false, true, true, true] 5 (mOp gSub [(mOp gMin2 [(mVar 7), (mVar 8)]), (mOp gIx [(mVar 0), (mVar 6)])])))
def f_next_shape : Fn := mkFn 4 9 (mSeq (mSetD [] 4 (mOp gLst [])) (mSeq (mSetD [false, false, false, true] 5 (mVar 3)) (mSeq (mFor [false, true, true] (iEZip2 [(mVar 1), (mVar 2)]) (.t2 (.nm 6) (.t2 (.nm 7) (.nm 8))) f_next_shape_b1) (mRetV 4))))
/-- for (customer, minutes) in enumerate(row) -/
def f_shapes_b1 : MS := (mSeq (mPar2Ix 7 8 2 (mOp gNeg [(mC (.int 1))]) (mVar 3) (mOp gNeg [(mC (.int 1))]) (mOp gAdd [(mVar 3), (mC (.int 1))])) (mUpd uApp [false, false, false, false, false, true, true, true, true] 5 [(mCall f_next_shape [(mVar 7), (mVar 8), (mOp gIx [(mVar 5), (mOp gNeg [(mC (.int 1))])]), (mVar 6)])]))
/-- for row in hall -/
def f_shapes_b2 : MS := (mSeq (mSetD [false, true] 5 (mOp gLst [(mOp gMul [(mOp gLst [(mC (.int 0))]), (mVar 1)])])) (mSeq (mFor [false, false, false, false, true] (iEnum (mVar 4)) (.t2 (.nm 3) (.nm 6)) f_shapes_b1) (mUpd uApp [false, false, false, false, false, true] 2 [(mVar 5)])))
/-- [[0] * size for customer in range(len(hall[0]) + 1)] -/
def f_shapes_c3 : M := mLc (iR1 [(mOp gAdd [(mOp gLen [(mOp gIx [(mVar 0), (mC (.int 0))])]), (mC (.int 1))])]) (.nm 3) [3] tTrue (mOp gMul [(mOp gLst [(mC (.int 0))]), (mVar 1)])
def f_shapes : Fn := mkFn 1 9 (mSeq (mSetD [true] 1 (mOp gAdd [(mOp gMin2 [(mOp gLen [(mVar 0)]), (mOp gLen [(mOp gIx [(mVar 0), (mC (.int 0))])])]), (mC (.int 1))])) (mSeq (mSetD [true, true] 2 (mOp gLst [f_shapes_c3])) (mSeq (mFor [true] (iSeq (mVar 0)) (.nm 4) f_shapes_b2) (mRetV 2))))
def f_trimmed : Fn := mkFn 2 2 (mRet (mOp gTuple [(mOp gSl01 [(mVar 0), (mVar 1)])]))
/-- [trimmed(line[-1], min(many + 1, len(hall[0]))) for many, line in enumerate(rows[1:])] -/
def f_towers_of_c1 : M := mLc (iEnum (mOp gSl10 [(mVar 1), (mC (.int 1))])) (.t2 (.nm 3) (.nm 6)) [3, 6] tTrue (mCall f_trimmed [(mOp gIx [(mVar 6), (mOp gNeg [(mC (.int 1))])]), (mOp gMin2 [(mOp gAdd [(mVar 3), (mC (.int 1))]), (mOp gLen [(mOp gIx [(mVar 0), (mC (.int 0))])])])])
/-- [trimmed(row, min(many + 1, len(hall))) for many, row in enumerate(rows[-1][1:])] -/
def f_towers_of_c2 : M := mLc (iEnum (mOp gSl10 [(mOp gIx [(mVar 1), (mOp gNeg [(mC (.int 1))])]), (mC (.int 1))])) (.t2 (.nm 3) (.nm 4)) [3, 4] tTrue (mCall f_trimmed [(mVar 4), (mOp gMin2 [(mOp gAdd [(mVar 3), (mC (.int 1))]), (mOp gLen [(mVar 0)])])])
def f_towers_of : Fn := mkFn 1 7 (mSeq (mSetD [true] 1 (mCall f_shapes [(mVar 0)])) (mSeq (mSetD [true, true, false, true, true] 2 f_towers_of_c2) (mSeq (mSetD [true, true, false, true, false, false, true] 5 f_towers_of_c1) (mRet (mOp gTup [(mVar 2), (mVar 5)])))))
def f_towers : Fn := mkFn 1 1 (mSeq (mDo (mCall f_need_hall [(mVar 0)])) (mRet (mCall f_towers_of [(mVar 0)])))
end Zm
set_option Elab.async false
set_option linter.all false
set_option maxRecDepth 100000
set_option autoImplicit false
/-! XG31: told[j].append(e), told a tuple of owned lists. -/
namespace Zm
open PySem PySem.Spec PyProof.Rows L2
section
variable {K : PySem.W.Frag} {mg : Str → Option Value} {W : WX} {H H' H1 : Hp} {ρ ρ' ρ1 : List Addr} {σm : Env} {σ : L2.St} {s s' s1 : Sto} {A F : Cnt}
theorem Rel.wrT (rel : Rel K mg σm s σ H ρ A F) {i n : Nat} {xs ys : List D} (hi : σm[i]? = some (some (.tup xs))) (hn : xs[n]? = some (.lst true ys)) :
    ∃ (p q : Addr) (vs ws : List V) (a2 f2 : Cnt), σ[i]? = some (some (.ref p)) ∧ H p = some (.tup vs) ∧ vs.length = xs.length ∧ vs[n]? = some (.ref q) ∧ H q = some (.lst ws) ∧ Reps K mg H ρ ys ws a2 f2 ∧
      ∀ (H1 : Hp) (ρ1 : List Addr) (s1 : Sto) (ys' : List D) (ws' : List V) (a' f' : Cnt), Fr c0 H H1 ρ ρ1 → Wd K mg ρ1 s1 H1 → Reps K mg H1 ρ1 ys' ws' a' f' → (∀ x, a' x ≤ a2 x ∧ f' x ≤ f2 x) →
        H1 p = some (.tup vs) ∧ H1 q = some (.lst ws) ∧ Fr A H (upd H1 q (.lst ws')) ρ ρ1 ∧ ∃ A' F', Rel K mg (σm.set i (some (.tup (xs.set n (.lst true ys'))))) s1 σ (upd H1 q (.lst ws')) ρ1 A' F' ∧ ∀ x, A' x ≤ A x ∧ F' x ≤ F x := by
  obtain ⟨w, a0, f0, A2, F2, e1, rp0, e2, qq⟩ := rel.env.take hi
  cases rp0 with
  | tup hp t =>
    rename_i p vs
    obtain ⟨v, ad, fd, ar, fr', h1, rd, h3, put⟩ := t.at_put hn
    cases rd with
    | own hq hnq ty ey =>
      rename_i q ws a2
      have hil : i < σm.length := (List.getElem?_eq_some_iff.mp hi).1
      refine ⟨p, q, vs, ws, a2, fd, e1, hp, t.length.symm, h1, hq, ty, fun H1 ρ1 s1 ys' ws' a' f' fr wd r' le => ?_⟩
      have cnt : ∀ x, A x = cp q x + a2 x + ar x + A2 x ∧ F x = fd x + fr' x + F2 x := fun x => by
        have := qq x; have := h3 x; have := ey x; omega
      have hAq : 1 ≤ A q := by have := (cnt q).1; rw [cp_same] at this; omega
      have keep : ∀ {b : Addr} {o : List V}, H b = some (.lst o) → b ∉ ρ → H1 b = some (.lst o) := fun {b o} hb nb => by
        rcases fr.keep b _ hb with z | ⟨_, z | z⟩
        · exact z
        · exact (nb z).elim
        · exact no0 z
      have hp1 : H1 p = some (.tup vs) := by
        rcases fr.keep p _ hp with z | ⟨l, _⟩
        · exact z
        · exact l.elim
      have hq1 := keep hq hnq
      have hnq1 : q ∉ ρ1 := fr.nmem hq hnq
      have fr1 : Fr (cp q) H1 (upd H1 q (.lst ws')) ρ1 ρ1 := by
        refine ⟨fun x o q' => ?_, fun x q' => ?_, [], by simp, by simp⟩
        · by_cases z : x = q
          · subst z
            rw [hq1] at q'; cases q'
            exact .inr ⟨trivial, .inr (by rw [cp_same]; omega)⟩
          · rw [upd_ne z]; exact .inl q'
        · by_cases z : x = q
          · subst z; rw [upd_same] at q'; cases q'
          · rw [upd_ne z] at q'; exact q'
      have out : ∀ x, 1 ≤ cp q x → a2 x = 0 ∧ fd x = 0 ∧ ar x = 0 ∧ fr' x = 0 ∧ A2 x = 0 ∧ F2 x = 0 := fun x hx => by
        have s0 := rel.sep x
        have c := cnt x
        have := s0.2 (by omega)
        omega
      have pq : p ≠ q := fun z => by subst z; rw [hp] at hq; cases hq
      refine ⟨hp1, hq1, ⟨fun x o q' => ?_, fun x q' => fr.there x (fr1.there x q'), fr.ext⟩, ?_⟩
      · rcases fr.keep x o q' with z | ⟨l, z | z⟩
        · rcases fr1.keep x o z with y | ⟨l, y | y⟩
          · exact .inl y
          · obtain ⟨r, er, nr⟩ := fr.ext
            rw [er] at y
            rcases List.mem_append.mp y with y | y
            · exact .inr ⟨l, .inl y⟩
            · rw [nr x y] at q'; cases q'
          · by_cases w : x = q
            · subst w; exact .inr ⟨l, .inr hAq⟩
            · rw [cp_ne w] at y; omega
        · exact .inr ⟨l, .inl z⟩
        · exact no0 z
      · have env1 := (e2.frame fr fun _ hx => no0 hx).frame fr1 fun x hx => by have := out x hx; omega
        have newq : Rep K mg (upd H1 q (.lst ws')) ρ1 (.lst true ys') (.ref q) (fun x => cp q x + a' x) f' := .own upd_same hnq1 (r'.frame fr1 fun x hx => by have := out x hx; have := le x; omega) (fun _ => rfl)
        have newp := put (upd H1 q (.lst ws')) ρ1 (fun d v a f h l => (h.frame fr fun _ hx => no0 hx).frame fr1 fun x hx => by have := out x hx; have := l x; omega) _ _ _ newq
        have new : Rep K mg (upd H1 q (.lst ws')) ρ1 (.tup (xs.set n (.lst true ys'))) (.ref p) (fun x => cp q x + a' x + ar x) (fun x => f' x + fr' x) := .tup (by rw [upd_ne pq]; exact hp1) newp
        have e3 := env1.put (i := i) (by simp [hil]) e1 new
        rw [List.set_set] at e3
        refine ⟨_, _, ⟨e3, ⟨wd.len, wd.nd, fun n b ys z1 z2 => ?_⟩, fun x => ?_⟩, fun x => ?_⟩
        · obtain ⟨w1, ws, a, f, w2, w3⟩ := wd.at_ n b ys z1 z2
          have nb : b ≠ q := fun z => hnq1 (z ▸ List.mem_of_getElem? z1)
          have zz := w3.plain w1
          exact ⟨w1, ws, a, f, by rw [upd_ne nb]; exact w2, w3.frame fr1 fun x _ => zz x⟩
        · show cp q x + a' x + ar x + A2 x ≤ 1 ∧ (1 ≤ cp q x + a' x + ar x + A2 x → f' x + fr' x + F2 x = 0)
          have s0 := rel.sep x
          have c := cnt x
          have l := le x
          refine ⟨by omega, fun z => ?_⟩
          have := s0.2 (by omega)
          omega
        · show cp q x + a' x + ar x + A2 x ≤ A x ∧ f' x + fr' x + F2 x ≤ F x
          have c := cnt x
          have l := le x
          omega
end
def updT (g : UG) (i : Nat) (xs : List D) (j : Int) (ds : List D) (σ : Env) (s : Sto) : RS := match ixN xs.length j with
  | some n => match xs[n]? with
    | some (.lst true ys) => if plains ds = true then (match g ys ds with
      | some ys' => .nx (σ.set i (some (.tup (xs.set n (.lst true ys'))))) s
      | none => .bad) else .bad
    | _ => .bad
  | none => .bad
/-- x[j].append(e), x a tuple -/
def mApT (i : Nat) (mj m : M) : MS := fun σ s => match σ[i]? with
  | some (some (.tup xs)) => (mj σ s).to σ fun dj s1 => match dj with
    | .int j => match ixN xs.length j with
      | some n => match xs[n]? with
        | some (.lst true ys) => (m σ s1).to σ fun d s2 => updT uApp i xs j [d] σ s2
        | _ => .bad
      | none => .bad
    | _ => .bad
  | _ => .bad
section
variable {K : PySem.W.Frag} {mg : Str → Option Value} {W : WX} {H : Hp} {σ : L2.St} {Ds : Ends} {i : Nat} {mj mk m : M} {r : Addr → List V → Hp → Hp → Prop} {g : UG}
theorem updT_end {K : PySem.W.Frag} {mg : Str → Option Value} {W : WX} {H : Hp} {ρ : List Addr} {σm : Env} {σ : L2.St} {s : Sto} {A F : Cnt} {Ds : Ends} {i n : Nat} {j : Int} {xs ys ds : List D} {ws : List V} {a f : Cnt} (hv : UV K mg r g)
    (rel : Rel K mg σm s σ H ρ A F) (hi : σm[i]? = some (some (.tup xs))) (hn : ixN xs.length j = some n) (hy : xs[n]? = some (.lst true ys)) (rp : Reps K mg H ρ ds ws a f) (h : oS K mg W A F H ρ Ds (updT g i xs j ds σm s)) :
    ∃ p q vs, σ[i]? = some (some (.ref p)) ∧ H p = some (.tup vs) ∧ L2.atI vs j = some (.ref q) ∧ ∃ H2, r q ws H H2 ∧ Ds.nx σ H2 := by
  obtain ⟨p, q, vs, us, a2, f2, e1, hp, hl, hvn, hq, ry, wr⟩ := rel.wrT hi hy
  unfold updT at h
  simp only [hn, hy] at h
  split at h
  · rename_i hpl
    split at h
    · rename_i ys' hys
      have z := rp.plain hpl
      obtain ⟨vs', a', f', r', le, rr⟩ := hv H ρ q ys ds ys' us ws a2 f2 a f hq ry rp hys
      obtain ⟨_, _, fr, A', F', rel', le'⟩ := wr H ρ s ys' vs' a' f' .refl rel.wd r' fun x => by have := le x; have := z x; omega
      refine ⟨p, q, vs, e1, hp, ixN_atI (by rw [hl]; exact hn) hvn, _, rr, h _ _ _ _ _ fr rel' fun x => ?_⟩
      have := le' x
      exact ⟨fun y => .inl (by omega), fun y => .inr (.inl (by omega))⟩
    · exact h.elim
  · exact h.elim
theorem appT_end (h : rS K mg W (mApT i mj m) Ds σ H) : ∃ v, σ[i]? = some (some v) ∧ rE K mg W mj σ H fun y H2 => rIxT K v y H2 fun o H3 => (∃ q us, o = .ref q ∧ H3 q = some (.lst us)) ∧ rE K mg W m σ H3 fun x H4 => rAppend o [x] H4 fun _ H5 => Ds.nx σ H5 := by
  obtain ⟨σm, s, ρ, A, F, rel, h⟩ := h
  unfold mApT at h
  split at h
  · rename_i xs hσ
    obtain ⟨w, _, _, _, _, e1, rp0, _, _⟩ := rel.env.take hσ
    refine ⟨_, e1, rE_of_to rel h fun dj s2 vj H2 ρ2 aj fj fr2 wd2 rj gj h => ?_⟩
    split at h
    · rename_i j
      split at h
      · rename_i n hn
        split at h
        · rename_i ys hy
          cases inv_int rj
          have rel2 := rel.next fr2 wd2
          obtain ⟨p', q, vs', us, a2, f2, e1', hp', hl, hvn, hq, ry, wr⟩ := rel2.wrT hσ hy
          cases e1.symm.trans e1'
          refine ⟨p', vs', j, .ref q, rfl, rfl, SqT.of hp', ixN_atI (by rw [hl]; exact hn) hvn, ⟨q, us, rfl, hq⟩, ?_⟩
          refine rE_of_to rel2 (oS.step fr2.up .refl h) fun d s3 v H3 ρ3 a f fr3 wd3 rp g h => ?_
          have rel3 := rel2.next fr3 wd3
          obtain ⟨p3, q3, vs3, e3, hp3, at3, H5, rr, nx⟩ := updT_end u_app rel3 hσ hn hy (Reps.one rp) (oS.step fr3.up .refl h)
          cases e1.symm.trans e3
          have hv3 : vs3 = vs' := by
            have := wr H3 ρ3 s3 ys us a2 f2 fr3 wd3 (ry.on fr3) (fun x => ⟨Nat.le_refl _, Nat.le_refl _⟩)
            have h1 := this.1
            rw [hp3] at h1; cases h1; rfl
          subst hv3
          rw [ixN_atI (by rw [hl]; exact hn) hvn] at at3
          cases at3
          exact rr _ nx
        · exact h.elim
      · exact h.elim
    · exact h.elim
  · exact h.elim
end
section
variable {X : Cx} {W : WX} {e ei ej ek : Expr} {m mj mk : M} {pos pos' ipos spos apos cpos : Pos} {x : Str}
theorem ss_appT (i : Nat) (hj : SE X W ej mj) (he : SE X W e m) (hN : X.N[i]? = some x := by rfl) (hvis : Vis X.env.scope x := by first | exact Or.inl rfl | exact Or.inr (Or.inl rfl) | exact Or.inr (Or.inr rfl)) (hd : (x == ("__debug__" : Str)) = false := by decide) (hcd : (x == ("__classdict__" : Str)) = false := by decide)
    (hp : PlainIx ej := by intro _ _; rfl)
    (hst : starEach [e] X.env = [(false, eval e X.env)] := by rfl) (hline : (apos.endLine == cpos.line) = true := by rfl)
    (hbase : attributeBase (.Subscript (.Name x pos') ej ipos) "append" X.env (eval (.Subscript (.Name x pos') ej ipos) X.env) = eval (.Subscript (.Name x pos') ej ipos) X.env := by rfl)
    (hs : swapsWith (.Call (.Attribute (.Subscript (.Name x pos') ej ipos) "append" apos) [e] [] cpos) none pos.line X.env = pure false := by rfl) :
    SS X W (.Expr (.Call (.Attribute (.Subscript (.Name x pos') ej ipos) "append" apos) [e] [] cpos) pos) (mApT i mj m) :=
  PS.imp (ps_expr (pe_bm PySem.F.plainAttrs_list PySem.F.slot_list_append PySem.F.type_list_append mt_append (pe_ix ix_seq (pe_var hN hvis hd hcd) hj hp) (pa_cons he pa_nil hst) (hbase := hbase) (hfew := by rw [hst]; rfl) (hline := hline) (hs := hst) (hplain := by rfl)) hs) fun D σ H h => by
    obtain ⟨v, e1, h⟩ := appT_end h
    exact ⟨v, e1, rE_mono h fun y H2 ⟨p, xs, k, o, ex, ey, hL, ea, ⟨q, us, eo, hq⟩, hr⟩ => .inr (.inl ⟨p, xs, k, o, ex, ey, hL, ea, by subst eo; exact .inl ⟨rfl, us, SqL.of hq⟩, rE_mono hr fun x H4 z => z⟩)⟩
end
/-! ### a, b = a new tuple of owned things, as it is -/
def mUnpO2 (i j : Nat) (m : M) : MS := fun σ s => (m σ s).to σ fun d s' => match d with
  | .tup [d1, d2] => if noF d1 = true ∧ noF d2 = true then (if i < σ.length ∧ j < σ.length then .nx ((σ.set i (some d1)).set j (some d2)) s' else .bad) else .bad
  | _ => .bad
section
variable {K : PySem.W.Frag} {mg : Str → Option Value} {W : WX} {H : Hp} {σ : L2.St} {D : Ends} {m : M} {i j : Nat}
theorem unpO2_end (h : rS K mg W (mUnpO2 i j m) D σ H) : rE K mg W m σ H fun x H1 => ∃ p v w, x = .ref p ∧ SqT K H1 p [v, w] ∧ D.nx ((σ.set i (some v)).set j (some w)) H1 := by
  obtain ⟨σm, s, ρ, A, F, rel, h⟩ := h
  refine rE_of_to rel h fun d s1 v H1 ρ1 a f fr wd rp gd h => ?_
  split at h
  · rename_i x y
    split at h
    · rename_i hz
      split at h
      · rename_i hl
        match rp with
        | .tup hp r =>
        obtain ⟨v, w, ax, fx, ay, fy, rfl, rv, rw', q⟩ := r.inv2
        have hf1 := rv.noF hz.1
        have hf2 := rw'.noF hz.2
        have r1 := rel.next fr wd
        obtain ⟨A1, F1, e1, l1, _⟩ := r1.env.set i rv hl.1
        obtain ⟨A2, F2, e2, l2, _⟩ := e1.set j rw' (by rw [List.length_set]; exact hl.2)
        have ev := rel.env.there
        have sp : ∀ x, (1 ≤ a x → H x = none ∧ A x = 0 ∧ F x = 0) := fun x y => by
          have hn := ((gd x).2.1 y).2
          have : ¬ 1 ≤ A x + F x := fun z => by obtain ⟨⟨o, ho⟩, _⟩ := ev x z; rw [hn] at ho; cases ho
          exact ⟨hn, by omega, by omega⟩
        refine ⟨_, v, w, rfl, SqT.of hp, h _ _ _ A2 F2 fr.up ⟨e2, wd, fun x => ?_⟩ fun x => ?_⟩
        · have := l1 x; have := l2 x; have := q x; have := hf1 x; have := hf2 x
          have s0 := rel.sep x
          have g1 := (gd x).1
          by_cases y : 1 ≤ a x
          · have := sp x y; omega
          · exact ⟨by omega, fun z => by have := s0.2 (by omega); omega⟩
        · have := l1 x; have := l2 x; have := q x; have := hf1 x; have := hf2 x
          refine ⟨fun y => ?_, fun y => .inr (.inl (by omega))⟩
          by_cases w : 1 ≤ a x
          · exact .inr (sp x w).1
          · exact .inl (by omega)
      · exact h.elim
    · exact h.elim
  · exact h.elim
end
section
variable {X : Cx} {W : WX} {e ex ey : Expr} {m : M} {pos px py pt : Pos} {x y : Str} {kt : Nat}
theorem ss_unpO2 (i j : Nat) (hc : X.calm = true) (nd : X.N.Nodup) (he : SE X W e m) (hi : X.N[i]? = some x := by rfl) (hj : X.N[j]? = some y := by rfl)
    (lx : Loc X.env.scope x := by first | exact .inl rfl | exact .inr rfl) (ly : Loc X.env.scope y := by first | exact .inl rfl | exact .inr rfl)
    (fx : X.fn x = true ∨ X.env.scope.names.lookup x = some .local := by first | exact .inl rfl | exact .inr rfl) (fy : X.fn y = true ∨ X.env.scope.names.lookup y = some .local := by first | exact .inl rfl | exact .inr rfl)
    (hs1 : (assignEach [.Name x px, .Name y py] X.env).map (·.2) = assign (.Name x px) X.env :: (assignEach [.Name y py] X.env).map (·.2) := by rfl) (hs2 : (assignEach [.Name y py] X.env).map (·.2) = assign (.Name y py) X.env :: (assignEach [] X.env).map (·.2) := by rfl)
    (hn : (assignEach [.Name x px, .Name y py] X.env).length = 2 := by rfl) (hst : (assignEach [.Name x px, .Name y py] X.env).findIdx? (·.1) = none := by rfl)
    (hs : swapsWithSole [.Tuple [.Name x px, .Name y py] kt pt] e pos.line X.env = pure false := by rfl) (hw : swappedStores [.Tuple [.Name x px, .Name y py] kt pt] e X.env = pure none := by rfl)
    (h1 : (assignEach [.Tuple [.Name x px, .Name y py] kt pt] X.env).map (·.2) = [assign (.Tuple [.Name x px, .Name y py] kt pt) X.env] := by rfl) :
    SS X W (.Assign [.Tuple [.Name x px, .Name y py] kt pt] e pos) (mUnpO2 i j m) :=
  PS.imp (ps_asg he (pg_tup hc (pgs_cons (pg_name nd hi lx fx) (pgs_cons (pg_name nd hj ly fy) pgs_nil hs2) hs1) hn hst) hs hw h1) fun D σ H h => rE_mono (unpO2_end h) fun v H1 ⟨p, v1, v2, e, sq, q⟩ => ⟨p, [v1, v2], e, sq, rfl, v1, [v2], rfl, v2, [], rfl, rfl, q⟩
end
/-! ### return (x, y), two names of the def's own -/
def mRetP (i j : Nat) : MS := fun σ s => match σ[i]?, σ[j]? with
  | some (some d1), some (some d2) => if i ≠ j then .rt (.tup [d1, d2]) s else .bad
  | _, _ => .bad
section
variable {X : Cx} {W : WX} {x y : Str} {pos pos1 pos' pos2 : Pos} {p1 : Nat}
theorem ss_retP (i j : Nat) (hN : X.N[i]? = some x := by rfl) (hv : Vis X.env.scope x := by first | exact Or.inl rfl | exact Or.inr (Or.inl rfl) | exact Or.inr (Or.inr rfl)) (hd : (x == ("__debug__" : Str)) = false := by decide)
    (hcd : (x == ("__classdict__" : Str)) = false := by decide) (hN2 : X.N[j]? = some y := by rfl) (hv2 : Vis X.env.scope y := by first | exact Or.inl rfl | exact Or.inr (Or.inl rfl) | exact Or.inr (Or.inr rfl)) (hd2 : (y == ("__debug__" : Str)) = false := by decide)
    (hcd2 : (y == ("__classdict__" : Str)) = false := by decide) (h1 : starEach (.Name x pos1 :: [.Name y pos']) X.env = (false, eval (.Name x pos1) X.env) :: starEach [.Name y pos'] X.env := by rfl)
    (h2 : starEach (.Name y pos' :: []) X.env = (false, eval (.Name y pos') X.env) :: starEach [] X.env := by rfl) : SS X W (.Return (some (.Tuple [.Name x pos1, .Name y pos'] p1 pos2)) pos) (mRetP i j) :=
  PS.imp (ps_ret (pe_tup (pa_cons (pe_var hN hv hd hcd) (pa_cons (pe_var hN2 hv2 hd2 hcd2) pa_nil h2) h1))) fun D σ H ⟨σm, s, ρ, A, F, rel, h⟩ => by
    show ∃ v, σ[i]? = some (some v) ∧ (∃ w, σ[j]? = some (some w) ∧ ([v, w].length ≤ sizeLine ∧ ∀ p, H p = none → D.rt (.ref p) (upd H p (.tup [v, w]))))
    unfold mRetP at h
    split at h
    · rename_i d1 d2 e1 e2
      split at h
      · rename_i ne
        obtain ⟨v, a1, f1, A2, F2, q1, r1, env2, qq⟩ := rel.env.take e1
        obtain ⟨w, a2, f2, q2, r2, le⟩ := env2.get (i := j) (d := d2) (by rw [List.getElem?_set_ne ne]; exact e2)
        refine ⟨v, q1, w, q2, by show 2 ≤ sizeLine; rw [sizeLine_eq]; omega, fun p hp => ?_⟩
        have rs : Reps _ _ H ρ [d1, d2] [v, w] (fun x => a1 x + a2 x) (fun x => f1 x + f2 x) := .cons r1 (.cons r2 (.nil (A := c0) (F := c0) (fun _ => rfl) (fun _ => rfl)) (fun _ => rfl) (fun _ => rfl)) (fun x => by simp [c0]) (fun x => by simp [c0])
        refine h (.ref p) (upd H p (.tup [v, w])) ρ _ _ (Fr.of_same (Mc := c0) (same_upd hp)).up (rel.wd.same (same_upd hp)) (new_tup hp rs) fun x => ?_
        have := le x
        have := qq x
        have s0 := rel.sep x
        exact ⟨by omega, fun z => ⟨by have := s0.2 (by omega); omega, .inr (by omega)⟩, fun z => .inr (.inl (by omega))⟩
      · exact h.elim
    · exact h.elim
end
end Zm
set_option Elab.async false
set_option linter.all false
set_option maxRecDepth 100000
set_option autoImplicit false
namespace Zm
open PySem PySem.Spec PyProof.Rows L2
/-- [len(one) for one in rows] -/
def f__law_tower_c1 : M := mLc (iSeq (mVar 1)) (.nm 13) [13] tTrue (mOp gLen [(mVar 13)])
/-- [x for x in range(len(rows[at])) if rows[at][x] > letter] -/
def f__law_tower_c2 : M := mLc (iR1 [(mOp gLen [(mOp gIx [(mVar 1), (mVar 8)])])]) (.nm 10) [10] (tV (mOp gGt [(mOp gIx [(mOp gIx [(mVar 1), (mVar 8)]), (mVar 10)]), (mVar 7)])) (mVar 10)
/-- while letter is not None -/
def f__law_tower_b3 : MS := (mSeq (mIf (tV (mOp gEq [(mVar 8), (mOp gLen [(mVar 1)])])) (mUpd uApp [] 1 [(mOp gLst [])]) mNil) (mSeq (mSetD [false, true, false, false, false, false, false, true, true, false, true] 9 f__law_tower_c2) (mIf (tV (mOp gEq [(mVar 9), (mOp gLst [])])) (mSeq (mApp2 1 (mVar 8) (mVar 7)) (mSetD [] 7 (mC .non))) (mSeq (mSetD [false, false, false, false, false, false, false, false, false, true] 11 (mOp gIx [(mVar 9), (mC (.int 0))])) (mSeq (mSetD [false, true, false, false, false, false, false, false, true, false, false, true] 12 (mOp gIx [(mOp gIx [(mVar 1), (mVar 8)]), (mVar 11)])) (mSeq (mSt2 1 (mVar 8) (mVar 11) (mVar 7)) (mUnpD [false, false, false, false, false, false, false, false, true, false, false, false, true] (.t2 (.nm 7) (.nm 8)) (mOp gTup [(mVar 12), (mOp gAdd [(mVar 8), (mC (.int 1))])]))))))))
/-- test -/
def f__law_tower_t4 : T := (tV (mOp gNotN [(mVar 7), (mC .non)]))
/-- for turn in range(many_minutes) -/
def f__law_tower_b5 : MS := (mSeq (mUnpD [false, false, false, false, true] (.t2 (.nm 7) (.nm 8)) (mOp gTup [(mVar 4), (mC (.int 0))])) (whileR f__law_tower_t4 f__law_tower_b3 1000))
/-- for (k, many_minutes) in enumerate(row) -/
def f__law_tower_b6 : MS := (mForP (iR1 [(mVar 5)]) (.nm 6) f__law_tower_b5)
/-- for row in rooms -/
def f__law_tower_b7 : MS := (mSeq (mFor [false, false, false, true] (iEnum (mVar 3)) (.t2 (.nm 4) (.nm 5)) f__law_tower_b6) (mUpd uApp [false, true, false, false, false, false, false, false, false, false, false, false, false, true] 2 [f__law_tower_c1]))
def f__law_tower : Fn := mkFn 1 14 (mSeq (mUnpO2 1 2 (mOp gTup [(mOp gLst []), (mOp gLst [])])) (mSeq (mFor [true] (iSeq (mVar 0)) (.nm 3) f__law_tower_b7) (mRet (mOp gTup [(mVar 1), (mVar 2)]))))
/-- for k in range(1, size + 1) -/
def f__law_due_9ac8_b1 : MS := (mUpd uApp [false, false, true, false, true, false, true] 10 [(mOp gTuple [(mOp gSl01 [(mOp gAdd [(mOp gIx [(mVar 2), (mOp gSub [(mVar 6), (mC (.int 1))])]), (mOp gMul [(mOp gLst [(mC (.int 0))]), (mC (.int 8))])]), (mOp gMin2 [(mVar 6), (mVar 4)])])])])
/-- [one for one in row if one < k] -/
def f__law_due_9ac8_c2 : M := mLc (iSeq (mVar 9)) (.nm 8) [8] (tV (mOp gLt [(mVar 8), (mVar 6)])) (mVar 8)
/-- [len([one for one in row if one < k]) for row in rows] -/
def f__law_due_9ac8_c3 : M := mLc (iSeq (mVar 1)) (.nm 9) [9] tTrue (mOp gLen [f__law_due_9ac8_c2])
/-- for k in range(1, long + 1) -/
def f__law_due_9ac8_b4 : MS := (mSeq (mSetD [false, true, false, false, false, false, true, false, true, true] 7 (mOp gAdd [f__law_due_9ac8_c3, (mOp gMul [(mOp gLst [(mC (.int 0))]), (mC (.int 8))])])) (mUpd uApp [false, false, false, true, false, false, true, true] 5 [(mOp gTuple [(mOp gSl01 [(mVar 7), (mOp gMin2 [(mVar 6), (mVar 3)])])])]))
def f__law_due_9ac8 : Fn := mkFn 1 11 (mSeq (mUnpD [true] (.t2 (.nm 1) (.nm 2)) (mCall f__law_tower [(mVar 0)])) (mSeq (mPar2 [true] 3 4 [(mOp gLen [(mVar 0)]), (mOp gLen [(mOp gIx [(mVar 0), (mC (.int 0))])])]) (mSeq (mSetD [] 5 (mOp gLst [])) (mSeq (mForP (iR2 [(mC (.int 1)), (mOp gAdd [(mVar 4), (mC (.int 1))])]) (.nm 6) f__law_due_9ac8_b4) (mSeq (mSetD [] 10 (mOp gLst [])) (mSeq (mForP (iR2 [(mC (.int 1)), (mOp gAdd [(mVar 3), (mC (.int 1))])]) (.nm 6) f__law_due_9ac8_b1) (mRet (mOp gTup [(mVar 5), (mVar 10)]))))))))
/-- [trimmed(line[-1], min(many + 1, len(hall[0]))) for many, line in enumerate(rows[1:])] -/
def f_towers_of_o_c1 : M := mLc (iEnum (mOp gSl10 [(mVar 1), (mC (.int 1))])) (.t2 (.nm 3) (.nm 6)) [3, 6] tTrue (mCall f_trimmed [(mOp gIx [(mVar 6), (mOp gNeg [(mC (.int 1))])]), (mOp gMin2 [(mOp gAdd [(mVar 3), (mC (.int 1))]), (mOp gLen [(mOp gIx [(mVar 0), (mC (.int 0))])])])])
/-- [trimmed(row, min(many + 1, len(hall))) for many, row in enumerate(rows[-1][1:])] -/
def f_towers_of_o_c2 : M := mLc (iEnum (mOp gSl10 [(mOp gIx [(mVar 1), (mOp gNeg [(mC (.int 1))])]), (mC (.int 1))])) (.t2 (.nm 3) (.nm 4)) [3, 4] tTrue (mCall f_trimmed [(mVar 4), (mOp gMin2 [(mOp gAdd [(mVar 3), (mC (.int 1))]), (mOp gLen [(mVar 0)])])])
def f_towers_of_o : Fn := mkFn 1 7 (mSeq (mSetD [true] 1 (mCall f_shapes [(mVar 0)])) (mSeq (mSetD [true, true, false, true, true] 2 f_towers_of_o_c2) (mSeq (mSetD [true, true, false, true, false, false, true] 5 f_towers_of_o_c1) (mRetP 2 5))))
def f_towers_o : Fn := mkFn 1 1 (mSeq (mDo (mCall f_need_hall [(mVar 0)])) (mRet (mCall f_towers_of_o [(mVar 0)])))
/-- for k in range(max(1, min(6, len(script)))) -/
def f_law_b1 : MS := (mSeq (mSetD [true, true] 2 (mCall f__law_bag [(mOp gAdd [(mCall f__law_cell_at [(mVar 0), (mVar 1)]), (mC (.int 6))])])) (mSeq (mSetD [false, false, true] 3 (mCall f__law_hall_9811 [(mVar 2), (mC (.int 5)), (mC (.int 6)), (mC (.bl true))])) (mSeq (mSetD [false, false, false, true] 4 (mOp gRepr [(mVar 3)])) (mSeq (mSetD [false, false, false, true] 5 (mCall f__law_due_9ac8 [(mVar 3)])) (mSeq (mSetD [false, false, false, true] 6 (mCall f_towers_o [(mVar 3)])) (mSeq (mIf (tOr (tNot (tV (mCall f__law_alike_8dc4 [(mVar 6), (mVar 5)]))) (tV (mOp gNe [(mOp gRepr [(mVar 3)]), (mVar 4)]))) (mRet (mC (.bl false))) mNil) (mSeq (mApT 6 (mC (.int 0)) (mC (.int 1))) (mSeq (mIf (tNot (tV (mCall f__law_alike_8dc4 [(mFz (mOp gIx [(mVar 6), (mC (.int 1))])), (mFz (mOp gIx [(mVar 5), (mC (.int 1))]))]))) (mRet (mC (.bl false))) mNil) (mSeq (mApT 6 (mC (.int 1)) (mC (.int 2))) (mIf (tNot (tV (mCall f__law_alike_8dc4 [(mFz (mCallK f_towers_o [] [(mVar 3)])), (mVar 5)]))) (mRet (mC (.bl false))) mNil))))))))))
def f_law : Fn := mkFn 1 7 (mSeq (mForP (iR1 [(mOp gMax2 [(mC (.int 1)), (mOp gMin2 [(mC (.int 6)), (mOp gLen [(mVar 0)])])])]) (.nm 1) f_law_b1) (mRet (mC (.bl true))))
end Zm
set_option Elab.async false
set_option linter.all false
set_option maxRecDepth 100000
set_option autoImplicit false
namespace Zm
open PySem PySem.Spec PyProof.Rows L2
def kst (i : Nat) : Stmt := (PySem.Challenge.pw_movedminutes_k31_towers_by_putting_in.main.body[i]?).getD (.Pass ⟨0, 0, 0, 0⟩)
structure Txt (K : PySem.W.Frag) (mg : Str → Option Value) : Prop where
  f__law_bag : ∃ f fd, mg "_law_bag" = some (.ref f) ∧ Fun K "_law_bag" "_law_bag" (kst 20) f fd
  f__law_draw : ∃ f fd, mg "_law_draw" = some (.ref f) ∧ Fun K "_law_draw" "_law_draw" (kst 21) f fd
  f__law_minutes : ∃ f fd, mg "_law_minutes" = some (.ref f) ∧ Fun K "_law_minutes" "_law_minutes" (kst 22) f fd
  f__law_hall : ∃ f fd, mg "_law_hall" = some (.ref f) ∧ Fun K "_law_hall" "_law_hall" (kst 23) f fd
  f__law_tower : ∃ f fd, mg "_law_tower" = some (.ref f) ∧ Fun K "_law_tower" "_law_tower" (kst 24) f fd
  f__law_due : ∃ f fd, mg "_law_due" = some (.ref f) ∧ Fun K "_law_due" "_law_due" (kst 26) f fd
  f_is_whole : ∃ f fd, mg "is_whole" = some (.ref f) ∧ Fun K "is_whole" "is_whole" (kst 6) f fd
  f_is_amount : ∃ f fd, mg "is_amount" = some (.ref f) ∧ Fun K "is_amount" "is_amount" (kst 7) f fd
  f_is_row : ∃ f fd, mg "is_row" = some (.ref f) ∧ Fun K "is_row" "is_row" (kst 8) f fd
  f_is_hall : ∃ f fd, mg "is_hall" = some (.ref f) ∧ Fun K "is_hall" "is_hall" (kst 9) f fd
  f_need_hall : ∃ f fd, mg "need_hall" = some (.ref f) ∧ Fun K "need_hall" "need_hall" (kst 10) f fd
  f_next_shape : ∃ f fd, mg "next_shape" = some (.ref f) ∧ Fun K "next_shape" "next_shape" (kst 12) f fd
  f_shapes : ∃ f fd, mg "shapes" = some (.ref f) ∧ Fun K "shapes" "shapes" (kst 13) f fd
  f_trimmed : ∃ f fd, mg "trimmed" = some (.ref f) ∧ Fun K "trimmed" "trimmed" (kst 15) f fd
  f_towers_of : ∃ f fd, mg "towers_of" = some (.ref f) ∧ Fun K "towers_of" "towers_of" (kst 16) f fd
  f_towers : ∃ f fd, mg "towers" = some (.ref f) ∧ Fun K "towers" "towers" (kst 17) f fd
  f__law_alike : ∃ f fd, mg "_law_alike" = some (.ref f) ∧ Fun K "_law_alike" "_law_alike" (kst 25) f fd
  f__law_cell_at : ∃ f fd, mg "_law_cell_at" = some (.ref f) ∧ Fun K "_law_cell_at" "_law_cell_at" (kst 19) f fd
  n_all : mg "all" = none
  n_bool : mg "bool" = none
  n_enumerate : mg "enumerate" = none
  n_int : mg "int" = none
  n_isinstance : mg "isinstance" = none
  n_len : mg "len" = none
  n_list : mg "list" = none
  n_max : mg "max" = none
  n_min : mg "min" = none
  n_range : mg "range" = none
  n_repr : mg "repr" = none
  n_tuple : mg "tuple" = none
  n_zip : mg "zip" = none
  c_MOST_COUNTERS : ∃ t, mg "MOST_COUNTERS" = some (.int 8 t)
  c_MOST_CUSTOMERS : ∃ t, mg "MOST_CUSTOMERS" = some (.int 8 t)
section
variable {P : Program} {w : World} {K : PySem.W.Frag} {mg : Str → Option Value} {base : Heap}
theorem sc__law_bag : FnScope ["cell"] ["cell"] (defScope (kst 20)) := ⟨rfl, rfl, rfl, by decide +kernel, rfl, by decide +kernel, by decide +kernel⟩
theorem ok__law_bag (T : Txt K mg) : FnM P w K mg base 1 "_law_bag" ["cell"] f__law_bag := by
  obtain ⟨f, fd, hm, F⟩ := T.f__law_bag
  exact fnM_mk (k := 0) F sc__law_bag hm (F.binds fun _ _ _ _ _ _ us hl => match us, hl with | [_], _ => rfl) fun cdv A out s H E hr hg => (ss_one (ss_ret (s_box (sa_cons (s_blt (call_max2 rfl) v_max2 T.n_max (by rfl) (sa_cons s_int (sa_cons (s_bin op_sub v_sub (s_var 0) (s_bin o_pow v_pow s_int s_int)) sa_nil))) (sa_cons (s_bin op_mod v_mod (s_var 0) (s_bin o_add v_add (s_bin o_pow v_pow s_int s_int) s_int)) (sa_cons s_int sa_nil))))))
theorem sc__law_draw : FnScope ["bag", "sides", "digit"] ["bag", "sides"] (defScope (kst 21)) := ⟨rfl, rfl, rfl, by decide +kernel, rfl, by decide +kernel, by decide +kernel⟩
theorem ok__law_draw (T : Txt K mg) : FnM P w K mg base 1 "_law_draw" ["bag", "sides"] f__law_draw := by
  obtain ⟨f, fd, hm, F⟩ := T.f__law_draw
  exact fnM_mk (k := 0) F sc__law_draw hm (F.binds fun _ _ _ _ _ _ us hl => match us, hl with | [_, _], _ => rfl) fun cdv A out s H E hr hg => (ss_cons (ss_if (st_cmp op_gt v_cmpI (s_ix (s_var 0) s_int) s_int) (ss_cons (ss_setD 2 [true, true] sc__law_draw.nd (s_bin op_mod v_mod (s_ix (s_var 0) s_int) (s_var 1))) (ss_cons (ss_st 0 [true, true] (s_bin op_fdivW v_div (s_ix (s_var 0) s_int) (s_var 1)) s_int) (ss_one (ss_retV 2)))) ss_nil) (ss_cons (ss_st 0 [true] (s_bin o_add v_add (s_ix (s_var 0) s_int) s_int) s_int) (ss_cons (ss_setD 2 [true] sc__law_draw.nd (s_bin op_mod v_mod (s_bin o_pow v_pow (s_bin o_add v_add (s_ix (s_var 0) s_int) (s_bin o_mul v_mul (s_ix (s_var 0) s_int) s_int)) s_int) (s_bin o_add v_add (s_bin o_pow v_pow s_int s_int) s_int))) (ss_cons (ss_setD 2 [true, false, true] sc__law_draw.nd (s_bin op_mod v_mod (s_bin o_pow v_pow (s_bin o_add v_add (s_var 2) (s_bin o_mul v_mul (s_ix (s_var 0) s_int) s_int)) s_int) (s_bin o_add v_add (s_bin o_pow v_pow s_int s_int) s_int))) (ss_one (ss_ret (s_bin op_mod v_mod (s_bin op_fdivW v_div (s_var 2) s_int) (s_var 1))))))))
theorem sc__law_minutes : FnScope ["bag", "lot", "most"] ["bag", "lot"] (defScope (kst 22)) := ⟨rfl, rfl, rfl, by decide +kernel, rfl, by decide +kernel, by decide +kernel⟩
theorem ok__law_minutes (T : Txt K mg) : FnM P w K mg base 2 "_law_minutes" ["bag", "lot"] f__law_minutes := by
  obtain ⟨f, fd, hm, F⟩ := T.f__law_minutes
  have c__law_draw := (ok__law_draw (P := P) (w := w) (base := base) T).mono (by decide : 1 ≤ 1)
  exact fnM_mk (k := 1) F sc__law_minutes hm (F.binds fun _ _ _ _ _ _ us hl => match us, hl with | [_, _], _ => rfl) fun cdv A out s H E hr hg => (ss_cons (ss_setD 2 [false, true] sc__law_minutes.nd (s_ix (s_lst (sa_cons s_int (sa_cons s_int (sa_cons s_int (sa_cons (s_bin o_pow v_pow s_int s_int) (sa_cons s_int sa_nil)))))) (s_var 1))) (ss_cons (ss_if (st_cmp (op_eqD hr.units) v_eq (s_var 2) s_int) (ss_one (ss_setD 2 [true] sc__law_minutes.nd (s_ix (s_lst (sa_cons s_int (sa_cons s_int (sa_cons s_int (sa_cons s_int (sa_cons (s_bin o_pow v_pow s_int s_int) sa_nil)))))) (s_call c__law_draw hr hg (L2N.takes_of rfl rfl rfl rfl) (sa_cons (s_var 0) (sa_cons s_int sa_nil)))))) ss_nil) (ss_one (ss_ret (s_bin o_mul v_mul (s_call c__law_draw hr hg (L2N.takes_of rfl rfl rfl rfl) (sa_cons (s_var 0) (sa_cons (s_var 2) sa_nil))) (s_blt (call_min2 rfl) v_min2 T.n_min (by rfl) (sa_cons s_int (sa_cons (s_call c__law_draw hr hg (L2N.takes_of rfl rfl rfl rfl) (sa_cons (s_var 0) (sa_cons s_int sa_nil))) sa_nil))))))))
theorem sc__law_hall : FnScope ["bag", "rows_upto", "upto", "few", "size", "long", "lot", "k", "row"] ["bag", "rows_upto", "upto", "few"] (defScope (kst 23)) := ⟨rfl, rfl, rfl, by decide +kernel, rfl, by decide +kernel, by decide +kernel⟩
theorem ok__law_hall (T : Txt K mg) : FnM P w K mg base 3 "_law_hall" ["bag", "rows_upto", "upto", "few"] f__law_hall_9811 := by
  obtain ⟨f, fd, hm, F⟩ := T.f__law_hall
  have c__law_minutes := (ok__law_minutes (P := P) (w := w) (base := base) T).mono (by decide : 2 ≤ 2)
  have c__law_draw := (ok__law_draw (P := P) (w := w) (base := base) T).mono (by decide : 1 ≤ 2)
  exact fnM_mk (k := 2) F sc__law_hall hm (F.binds fun _ _ _ _ _ _ us hl => match us, hl with | [_, _, _, _], _ => rfl) fun cdv A out s H E hr hg => (ss_cons (ss_unpD [true, true, true] (s_tup (sa_cons (s_bin o_add v_add s_int (s_call c__law_draw hr hg (L2N.takes_of rfl rfl rfl rfl) (sa_cons (s_var 0) (sa_cons (s_var 1) sa_nil)))) (sa_cons (s_bin o_add v_add s_int (s_call c__law_draw hr hg (L2N.takes_of rfl rfl rfl rfl) (sa_cons (s_var 0) (sa_cons (s_var 2) sa_nil)))) sa_nil))) (sg_t2 rfl (sg_nm 4 sc__law_hall.nd) (sg_nm 5 sc__law_hall.nd))) (ss_cons (ss_setD 6 [true, false, false, true] sc__law_hall.nd (s_call c__law_draw hr hg (L2N.takes_of rfl rfl rfl rfl) (sa_cons (s_var 0) (sa_cons (s_if (st_val (s_var 3)) s_int s_int) sa_nil)))) (ss_one (ss_ret (s_blty call_tuple_of v_tuple T.n_tuple (by rfl) (sa_cons (s_lc (own := [("row", 8)]) rfl sc__law_hall.nd (SI.weak (si_range1 T.n_range (sa_cons (s_var 4) sa_nil))) (blkOk_by rfl) (fun _ _ _ _ _ => (sg_nm 8 sc__law_hall.nd)) (fun _ _ _ _ _ => sts_nil) (fun _ _ _ _ _ => (s_blty call_tuple_of v_tuple T.n_tuple (by rfl) (sa_cons (s_lc (own := [("k", 7)]) rfl sc__law_hall.nd (SI.weak (si_range1 T.n_range (sa_cons (s_var 5) sa_nil))) (blkOk_by rfl) (fun _ _ _ _ _ => (sg_nm 7 sc__law_hall.nd)) (fun _ _ _ _ _ => sts_nil) (fun _ _ _ _ _ => (s_call c__law_minutes hr hg takes0N (sa_cons (s_var 0) (sa_cons (s_var 6) sa_nil))))) sa_nil)))) sa_nil))))))
theorem sc__law_tower : FnScope ["rooms", "rows", "lengths", "row", "k", "many_minutes", "turn", "letter", "at", "greater", "x", "spot", "other", "one"] ["rooms"] (defScope (kst 24)) := ⟨rfl, rfl, rfl, by decide +kernel, rfl, by decide +kernel, by decide +kernel⟩
theorem ok__law_tower (T : Txt K mg) : FnM P w K mg base 1 "_law_tower" ["rooms"] f__law_tower := by
  obtain ⟨f, fd, hm, F⟩ := T.f__law_tower
  exact fnM_mk (k := 0) F sc__law_tower hm (F.binds fun _ _ _ _ _ _ us hl => match us, hl with | [_], _ => rfl) fun cdv A out s H E hr hg => (ss_cons (ss_unpO2 1 2 rfl sc__law_tower.nd (s_tup (sa_cons (s_lst sa_nil) (sa_cons (s_lst sa_nil) sa_nil)))) (ss_cons (ss_for [true] (passes_of rfl) rfl (si_seq (s_var 0)) (sg_nm 3 sc__law_tower.nd) (ss_cons (ss_for [false, false, false, true] (passes_of rfl) rfl (si_enum T.n_enumerate (s_var 3)) (sg_t2 rfl (sg_nm 4 sc__law_tower.nd) (sg_nm 5 sc__law_tower.nd)) (ss_one (ss_forP (passes_of rfl) rfl (si_range1 T.n_range (sa_cons (s_var 5) sa_nil)) (sg_nm 6 sc__law_tower.nd) (ss_cons (ss_unpD [false, false, false, false, true] (s_tup (sa_cons (s_var 4) (sa_cons s_int sa_nil))) (sg_t2 rfl (sg_nm 7 sc__law_tower.nd) (sg_nm 8 sc__law_tower.nd))) (ss_one (ss_while 1000 (passes_of rfl) (st_cmp op_notN v_notN (s_var 7) s_non) (ss_cons (ss_if (st_cmp (op_eqD hr.units) v_eq (s_var 8) (s_blt call_len v_len T.n_len (by rfl) (sa_cons (s_var 1) sa_nil))) (ss_one (ss_appD 1 [] (s_lst sa_nil))) ss_nil) (ss_cons (ss_setLc 9 [false, true, false, false, false, false, false, true, true, false, true] (own := [("x", 10)]) rfl sc__law_tower.nd (SI.weak (si_range1 T.n_range (sa_cons (s_blt call_len v_len T.n_len (by rfl) (sa_cons (s_ix (s_var 1) (s_var 8)) sa_nil)) sa_nil))) (blkOk_by rfl) (fun _ _ _ _ _ => (sg_nm 10 sc__law_tower.nd)) (fun _ _ _ _ _ => (sts_one (st_cmp op_gt v_cmpI (s_ix (s_ix (s_var 1) (s_var 8)) (s_var 10)) (s_var 7)))) (fun _ _ _ _ _ => (s_var 10))) (ss_one (ss_if (st_cmp (op_eqD hr.units) v_eq (s_var 9) (s_lst sa_nil)) (ss_cons (ss_app2 1 (s_var 8) (s_var 7)) (ss_one (ss_setD 7 [] sc__law_tower.nd s_non))) (ss_cons (ss_setD 11 [false, false, false, false, false, false, false, false, false, true] sc__law_tower.nd (s_ix (s_var 9) s_int)) (ss_cons (ss_setD 12 [false, true, false, false, false, false, false, false, true, false, false, true] sc__law_tower.nd (s_ix (s_ix (s_var 1) (s_var 8)) (s_var 11))) (ss_cons (ss_st2 1 (s_var 7) (s_var 8) (s_var 11)) (ss_one (ss_unpD [false, false, false, false, false, false, false, false, true, false, false, false, true] (s_tup (sa_cons (s_var 12) (sa_cons (s_bin o_add v_add (s_var 8) s_int) sa_nil))) (sg_t2 rfl (sg_nm 7 sc__law_tower.nd) (sg_nm 8 sc__law_tower.nd))))))))))))))))) (ss_one (ss_appD 2 [false, true, false, false, false, false, false, false, false, false, false, false, false, true] (s_lc (own := [("one", 13)]) rfl sc__law_tower.nd (si_seq (s_var 1)) (blkOk_by rfl) (fun _ _ _ _ _ => (sg_nm 13 sc__law_tower.nd)) (fun _ _ _ _ _ => sts_nil) (fun _ _ _ _ _ => (s_blt call_len v_len T.n_len (by rfl) (sa_cons (s_var 13) sa_nil)))))))) (ss_one (ss_ret (s_tup (sa_cons (s_var 1) (sa_cons (s_var 2) sa_nil)))))))
theorem sc__law_due : FnScope ["rooms", "rows", "lengths", "size", "long", "by_people", "k", "line", "one", "row", "by_rows"] ["rooms"] (defScope (kst 26)) := ⟨rfl, rfl, rfl, by decide +kernel, rfl, by decide +kernel, by decide +kernel⟩
theorem ok__law_due (T : Txt K mg) : FnM P w K mg base 2 "_law_due" ["rooms"] f__law_due_9ac8 := by
  obtain ⟨f, fd, hm, F⟩ := T.f__law_due
  have c__law_tower := (ok__law_tower (P := P) (w := w) (base := base) T).mono (by decide : 1 ≤ 1)
  exact fnM_mk (k := 1) F sc__law_due hm (F.binds fun _ _ _ _ _ _ us hl => match us, hl with | [_], _ => rfl) fun cdv A out s H E hr hg => (ss_cons (ss_unpD [true] (s_call c__law_tower hr hg (L2N.takes_of rfl rfl rfl rfl) (sa_cons (s_var 0) sa_nil)) (sg_t2 rfl (sg_nm 1 sc__law_due.nd) (sg_nm 2 sc__law_due.nd))) (ss_cons (ss_par2 3 4 [true] rfl sc__law_due.nd (sa_cons (s_blt call_len v_len T.n_len (by rfl) (sa_cons (s_var 0) sa_nil)) (sa_cons (s_blt call_len v_len T.n_len (by rfl) (sa_cons (s_ix (s_var 0) s_int) sa_nil)) sa_nil))) (ss_cons (ss_setD 5 [] sc__law_due.nd (s_lst sa_nil)) (ss_cons (ss_forP (passes_of rfl) rfl (si_range2 T.n_range (sa_cons s_int (sa_cons (s_bin o_add v_add (s_var 4) s_int) sa_nil))) (sg_nm 6 sc__law_due.nd) (ss_cons (ss_setD 7 [false, true, false, false, false, false, true, false, true, true] sc__law_due.nd (s_bin o_add v_add (s_lc (own := [("row", 9)]) rfl sc__law_due.nd (si_seq (s_var 1)) (blkOk_by rfl) (fun _ _ _ _ _ => (sg_nm 9 sc__law_due.nd)) (fun _ _ _ _ _ => sts_nil) (fun _ _ _ _ _ => (s_blt call_len v_len T.n_len (by rfl) (sa_cons (s_lc (own := [("one", 8)]) rfl sc__law_due.nd (si_seq (s_var 9)) (blkOk_by rfl) (fun _ _ _ _ _ => (sg_nm 8 sc__law_due.nd)) (fun _ _ _ _ _ => (sts_one (st_cmp op_lt v_cmpI (s_var 8) (s_var 6)))) (fun _ _ _ _ _ => (s_var 8))) sa_nil)))) (s_bin o_mul v_mul (s_lst (sa_cons s_int sa_nil)) s_int))) (ss_one (ss_appD 5 [false, false, false, true, false, false, true, true] (s_blty call_tuple_of v_tuple T.n_tuple (by rfl) (sa_cons (s_sl01 (s_var 7) (s_blt (call_min2 rfl) v_min2 T.n_min (by rfl) (sa_cons (s_var 6) (sa_cons (s_var 3) sa_nil)))) sa_nil)))))) (ss_cons (ss_setD 10 [] sc__law_due.nd (s_lst sa_nil)) (ss_cons (ss_forP (passes_of rfl) rfl (si_range2 T.n_range (sa_cons s_int (sa_cons (s_bin o_add v_add (s_var 3) s_int) sa_nil))) (sg_nm 6 sc__law_due.nd) (ss_one (ss_appD 10 [false, false, true, false, true, false, true] (s_blty call_tuple_of v_tuple T.n_tuple (by rfl) (sa_cons (s_sl01 (s_bin o_add v_add (s_ix (s_var 2) (s_bin op_sub v_sub (s_var 6) s_int)) (s_bin o_mul v_mul (s_lst (sa_cons s_int sa_nil)) s_int)) (s_blt (call_min2 rfl) v_min2 T.n_min (by rfl) (sa_cons (s_var 6) (sa_cons (s_var 4) sa_nil)))) sa_nil))))) (ss_one (ss_ret (s_tup (sa_cons (s_var 5) (sa_cons (s_var 10) sa_nil)))))))))))
theorem sc_is_whole : FnScope ["thing"] ["thing"] (defScope (kst 6)) := ⟨rfl, rfl, rfl, by decide +kernel, rfl, by decide +kernel, by decide +kernel⟩
theorem ok_is_whole (T : Txt K mg) : FnM P w K mg base 1 "is_whole" ["thing"] f_is_whole := by
  obtain ⟨f, fd, hm, F⟩ := T.f_is_whole
  exact fnM_mk (k := 0) F sc_is_whole hm (F.binds fun _ _ _ _ _ _ us hl => match us, hl with | [_], _ => rfl) fun cdv A out s H E hr hg => (ss_one (ss_ret (s_and (s_blt call_isi v_isi T.n_isinstance (by rfl) (sa_cons (s_var 0) (sa_cons (s_ty T.n_int (by rfl)) sa_nil))) (s_one (s_not (s_blt call_isi v_isi T.n_isinstance (by rfl) (sa_cons (s_var 0) (sa_cons (s_ty T.n_bool (by rfl)) sa_nil))))))))
theorem sc_is_amount : FnScope ["thing"] ["thing"] (defScope (kst 7)) := ⟨rfl, rfl, rfl, by decide +kernel, rfl, by decide +kernel, by decide +kernel⟩
theorem ok_is_amount (T : Txt K mg) : FnM P w K mg base 2 "is_amount" ["thing"] f_is_amount := by
  obtain ⟨f, fd, hm, F⟩ := T.f_is_amount
  have c_is_whole := (ok_is_whole (P := P) (w := w) (base := base) T).mono (by decide : 1 ≤ 1)
  exact fnM_mk (k := 1) F sc_is_amount hm (F.binds fun _ _ _ _ _ _ us hl => match us, hl with | [_], _ => rfl) fun cdv A out s H E hr hg => (ss_one (ss_ret (s_and (s_call c_is_whole hr hg (L2N.takes_of rfl rfl rfl rfl) (sa_cons (s_var 0) sa_nil)) (s_one (s_cmp op_ge v_cmpI (s_var 0) s_int)))))
theorem sc_is_row : FnScope ["thing", "many", "one"] ["thing", "many"] (defScope (kst 8)) := ⟨rfl, rfl, rfl, by decide +kernel, rfl, by decide +kernel, by decide +kernel⟩
theorem ok_is_row (T : Txt K mg) : FnM P w K mg base 3 "is_row" ["thing", "many"] f_is_row := by
  obtain ⟨f, fd, hm, F⟩ := T.f_is_row
  have c_is_amount := (ok_is_amount (P := P) (w := w) (base := base) T).mono (by decide : 2 ≤ 2)
  exact fnM_mk (k := 2) F sc_is_row hm (F.binds fun _ _ _ _ _ _ us hl => match us, hl with | [_, _], _ => rfl) fun cdv A out s H E hr hg => (ss_one (ss_ret (s_and (s_blt call_isi v_isi T.n_isinstance (by rfl) (sa_cons (s_var 0) (sa_cons (s_ty T.n_tuple (by rfl)) sa_nil))) (s_and (s_cmp (op_eqD hr.units) v_eq (s_blt call_len v_len T.n_len (by rfl) (sa_cons (s_var 0) sa_nil)) (s_var 1)) (s_one (s_blt (cr_all rfl) v_all T.n_all (by rfl) (sa_cons (s_lc (own := [("one", 2)]) rfl sc_is_row.nd (si_seq (s_var 0)) (blkOk_by rfl) (fun _ _ _ _ _ => (sg_nm 2 sc_is_row.nd)) (fun _ _ _ _ _ => sts_nil) (fun _ _ _ _ _ => (s_call c_is_amount hr hg takes0N (sa_cons (s_var 2) sa_nil)))) sa_nil)))))))
theorem sc_is_hall : FnScope ["thing", "row"] ["thing"] (defScope (kst 9)) := ⟨rfl, rfl, rfl, by decide +kernel, rfl, by decide +kernel, by decide +kernel⟩
theorem ok_is_hall (T : Txt K mg) : FnM P w K mg base 4 "is_hall" ["thing"] f_is_hall := by
  obtain ⟨f, fd, hm, F⟩ := T.f_is_hall
  have c_is_row := (ok_is_row (P := P) (w := w) (base := base) T).mono (by decide : 3 ≤ 3)
  exact fnM_mk (k := 3) F sc_is_hall hm (F.binds fun _ _ _ _ _ _ us hl => match us, hl with | [_], _ => rfl) fun cdv A out s H E hr hg => (ss_cons (ss_if (SW.st (sw_or (st_not (st_val (s_blt call_isi v_isi T.n_isinstance (by rfl) (sa_cons (s_var 0) (sa_cons (s_ty T.n_tuple (by rfl)) sa_nil))))) (sw_or (st_not (st_chain op_le op_le v_cmpI v_cmpI s_int (s_blt call_len v_len T.n_len (by rfl) (sa_cons (s_var 0) sa_nil)) (s_gi T.c_MOST_COUNTERS.choose_spec))) (sw_or1 (st_not (st_val (s_blt call_isi v_isi T.n_isinstance (by rfl) (sa_cons (s_ix (s_var 0) s_int) (sa_cons (s_ty T.n_tuple (by rfl)) sa_nil))))))))) (ss_one (ss_ret s_bl)) ss_nil) (ss_one (ss_ret (s_and (s_chain op_le op_le v_cmpI v_cmpI s_int (s_blt call_len v_len T.n_len (by rfl) (sa_cons (s_ix (s_var 0) s_int) sa_nil)) (s_gi T.c_MOST_CUSTOMERS.choose_spec)) (s_one (s_blt (cr_all rfl) v_all T.n_all (by rfl) (sa_cons (s_lc (own := [("row", 1)]) rfl sc_is_hall.nd (si_seq (s_var 0)) (blkOk_by rfl) (fun _ _ _ _ _ => (sg_nm 1 sc_is_hall.nd)) (fun _ _ _ _ _ => sts_nil) (fun _ _ _ _ _ => (s_call c_is_row hr hg takes0N (sa_cons (s_var 1) (sa_cons (s_blt call_len v_len T.n_len (by rfl) (sa_cons (s_ix (s_var 0) s_int) sa_nil)) sa_nil))))) sa_nil)))))))
theorem sc_need_hall : FnScope ["hall"] ["hall"] (defScope (kst 10)) := ⟨rfl, rfl, rfl, by decide +kernel, rfl, by decide +kernel, by decide +kernel⟩
theorem ok_need_hall (T : Txt K mg) : FnM P w K mg base 5 "need_hall" ["hall"] f_need_hall := by
  obtain ⟨f, fd, hm, F⟩ := T.f_need_hall
  have c_is_hall := (ok_is_hall (P := P) (w := w) (base := base) T).mono (by decide : 4 ≤ 4)
  exact fnM_mk (k := 4) F sc_need_hall hm (F.binds fun _ _ _ _ _ _ us hl => match us, hl with | [_], _ => rfl) fun cdv A out s H E hr hg => (ss_one (ss_if (st_not (st_val (s_call c_is_hall hr hg (L2N.takes_of rfl rfl rfl rfl) (sa_cons (s_var 0) sa_nil)))) (ss_one ss_bad) ss_nil))
theorem sc_next_shape : FnScope ["ahead", "above", "beside", "minutes", "found", "more", "place", "one", "other"] ["ahead", "above", "beside", "minutes"] (defScope (kst 12)) := ⟨rfl, rfl, rfl, by decide +kernel, rfl, by decide +kernel, by decide +kernel⟩
theorem ok_next_shape (T : Txt K mg) : FnM P w K mg base 1 "next_shape" ["ahead", "above", "beside", "minutes"] f_next_shape := by
  obtain ⟨f, fd, hm, F⟩ := T.f_next_shape
  exact fnM_mk (k := 0) F sc_next_shape hm (F.binds fun _ _ _ _ _ _ us hl => match us, hl with | [_, _, _, _], _ => rfl) fun cdv A out s H E hr hg => (ss_cons (ss_setD 4 [] sc_next_shape.nd (s_lst sa_nil)) (ss_cons (ss_setD 5 [false, false, false, true] sc_next_shape.nd (s_var 3)) (ss_cons (ss_for [false, true, true] (passes_of rfl) rfl (si_ezip2 T.n_enumerate T.n_zip (sa_cons (s_var 1) (sa_cons (s_var 2) sa_nil))) (sg_t2 rfl (sg_nm 6 sc_next_shape.nd) (sg_t2 rfl (sg_nm 7 sc_next_shape.nd) (sg_nm 8 sc_next_shape.nd))) (ss_cons (ss_appD 4 [false, false, false, false, false, true, false, true, true] (s_bin o_add v_add (s_blt (call_max2 rfl) v_max2 T.n_max (by rfl) (sa_cons (s_var 7) (sa_cons (s_var 8) sa_nil))) (s_var 5))) (ss_one (ss_setD 5 [true, false, false, false, false, false, true, true, true] sc_next_shape.nd (s_bin op_sub v_sub (s_blt (call_min2 rfl) v_min2 T.n_min (by rfl) (sa_cons (s_var 7) (sa_cons (s_var 8) sa_nil))) (s_ix (s_var 0) (s_var 6))))))) (ss_one (ss_retV 4)))))
theorem sc_shapes : FnScope ["hall", "size", "found", "customer", "row", "here", "minutes", "ahead", "above"] ["hall"] (defScope (kst 13)) := ⟨rfl, rfl, rfl, by decide +kernel, rfl, by decide +kernel, by decide +kernel⟩
theorem ok_shapes (T : Txt K mg) : FnM P w K mg base 2 "shapes" ["hall"] f_shapes := by
  obtain ⟨f, fd, hm, F⟩ := T.f_shapes
  have c_next_shape := (ok_next_shape (P := P) (w := w) (base := base) T).mono (by decide : 1 ≤ 1)
  exact fnM_mk (k := 1) F sc_shapes hm (F.binds fun _ _ _ _ _ _ us hl => match us, hl with | [_], _ => rfl) fun cdv A out s H E hr hg => (ss_cons (ss_setD 1 [true] sc_shapes.nd (s_bin o_add v_add (s_blt (call_min2 rfl) v_min2 T.n_min (by rfl) (sa_cons (s_blt call_len v_len T.n_len (by rfl) (sa_cons (s_var 0) sa_nil)) (sa_cons (s_blt call_len v_len T.n_len (by rfl) (sa_cons (s_ix (s_var 0) s_int) sa_nil)) sa_nil))) s_int)) (ss_cons (ss_setD 2 [true, true] sc_shapes.nd (s_lst (sa_cons (s_lc (own := [("customer", 3)]) rfl sc_shapes.nd (SI.weak (si_range1 T.n_range (sa_cons (s_bin o_add v_add (s_blt call_len v_len T.n_len (by rfl) (sa_cons (s_ix (s_var 0) s_int) sa_nil)) s_int) sa_nil))) (blkOk_by rfl) (fun _ _ _ _ _ => (sg_nm 3 sc_shapes.nd)) (fun _ _ _ _ _ => sts_nil) (fun _ _ _ _ _ => (s_bin o_mul v_mul (s_lst (sa_cons s_int sa_nil)) (s_var 1)))) sa_nil))) (ss_cons (ss_for [true] (passes_of rfl) rfl (si_seq (s_var 0)) (sg_nm 4 sc_shapes.nd) (ss_cons (ss_setD 5 [false, true] sc_shapes.nd (s_lst (sa_cons (s_bin o_mul v_mul (s_lst (sa_cons s_int sa_nil)) (s_var 1)) sa_nil))) (ss_cons (ss_for [false, false, false, false, true] (passes_of rfl) rfl (si_enum T.n_enumerate (s_var 4)) (sg_t2 rfl (sg_nm 3 sc_shapes.nd) (sg_nm 6 sc_shapes.nd)) (ss_cons (ss_par2Ix 7 8 2 rfl sc_shapes.nd (s_un un_neg v_neg s_int) (s_var 3) (s_un un_neg v_neg s_int) (s_bin o_add v_add (s_var 3) s_int)) (ss_one (ss_appD 5 [false, false, false, false, false, true, true, true, true] (s_call c_next_shape hr hg (L2N.takes_of rfl rfl rfl rfl) (sa_cons (s_var 7) (sa_cons (s_var 8) (sa_cons (s_ix (s_var 5) (s_un un_neg v_neg s_int)) (sa_cons (s_var 6) sa_nil))))))))) (ss_one (ss_appD 2 [false, false, false, false, false, true] (s_var 5)))))) (ss_one (ss_retV 2)))))
theorem sc_trimmed : FnScope ["row", "many"] ["row", "many"] (defScope (kst 15)) := ⟨rfl, rfl, rfl, by decide +kernel, rfl, by decide +kernel, by decide +kernel⟩
theorem ok_trimmed (T : Txt K mg) : FnM P w K mg base 1 "trimmed" ["row", "many"] f_trimmed := by
  obtain ⟨f, fd, hm, F⟩ := T.f_trimmed
  exact fnM_mk (k := 0) F sc_trimmed hm (F.binds fun _ _ _ _ _ _ us hl => match us, hl with | [_, _], _ => rfl) fun cdv A out s H E hr hg => (ss_one (ss_ret (s_blty call_tuple_of v_tuple T.n_tuple (by rfl) (sa_cons (s_sl01 (s_var 0) (s_var 1)) sa_nil))))
theorem sc_towers_of : FnScope ["hall", "rows", "by_customers", "many", "row", "by_counters", "line"] ["hall"] (defScope (kst 16)) := ⟨rfl, rfl, rfl, by decide +kernel, rfl, by decide +kernel, by decide +kernel⟩
theorem ok_towers_of (T : Txt K mg) : FnM P w K mg base 3 "towers_of" ["hall"] f_towers_of_o := by
  obtain ⟨f, fd, hm, F⟩ := T.f_towers_of
  have c_trimmed := (ok_trimmed (P := P) (w := w) (base := base) T).mono (by decide : 1 ≤ 2)
  have c_shapes := (ok_shapes (P := P) (w := w) (base := base) T).mono (by decide : 2 ≤ 2)
  exact fnM_mk (k := 2) F sc_towers_of hm (F.binds fun _ _ _ _ _ _ us hl => match us, hl with | [_], _ => rfl) fun cdv A out s H E hr hg => (ss_cons (ss_setD 1 [true] sc_towers_of.nd (s_call c_shapes hr hg (L2N.takes_of rfl rfl rfl rfl) (sa_cons (s_var 0) sa_nil))) (ss_cons (ss_setLc 2 [true, true, false, true, true] (own := [("many", 3), ("row", 4)]) rfl sc_towers_of.nd (si_enum T.n_enumerate (s_sl10 (s_ix (s_var 1) (s_un un_neg v_neg s_int)) s_int)) (blkOk_by rfl) (fun _ _ _ _ _ => (sg_t2 rfl (sg_nm 3 sc_towers_of.nd) (sg_nm 4 sc_towers_of.nd))) (fun _ _ _ _ _ => sts_nil) (fun _ _ _ _ _ => (s_call c_trimmed hr hg takes0N (sa_cons (s_var 4) (sa_cons (s_blt (call_min2 rfl) v_min2 T.n_min (by rfl) (sa_cons (s_bin o_add v_add (s_var 3) s_int) (sa_cons (s_blt call_len v_len T.n_len (by rfl) (sa_cons (s_var 0) sa_nil)) sa_nil))) sa_nil))))) (ss_cons (ss_setLc 5 [true, true, false, true, false, false, true] (own := [("many", 3), ("line", 6)]) rfl sc_towers_of.nd (si_enum T.n_enumerate (s_sl10 (s_var 1) s_int)) (blkOk_by rfl) (fun _ _ _ _ _ => (sg_t2 rfl (sg_nm 3 sc_towers_of.nd) (sg_nm 6 sc_towers_of.nd))) (fun _ _ _ _ _ => sts_nil) (fun _ _ _ _ _ => (s_call c_trimmed hr hg takes0N (sa_cons (s_ix (s_var 6) (s_un un_neg v_neg s_int)) (sa_cons (s_blt (call_min2 rfl) v_min2 T.n_min (by rfl) (sa_cons (s_bin o_add v_add (s_var 3) s_int) (sa_cons (s_blt call_len v_len T.n_len (by rfl) (sa_cons (s_ix (s_var 0) s_int) sa_nil)) sa_nil))) sa_nil))))) (ss_one (ss_retP 2 5)))))
theorem sc_towers : FnScope ["hall"] ["hall"] (defScope (kst 17)) := ⟨rfl, rfl, rfl, by decide +kernel, rfl, by decide +kernel, by decide +kernel⟩
theorem ok_towers (T : Txt K mg) : FnM P w K mg base 6 "towers" ["hall"] f_towers_o := by
  obtain ⟨f, fd, hm, F⟩ := T.f_towers
  have c_towers_of := (ok_towers_of (P := P) (w := w) (base := base) T).mono (by decide : 3 ≤ 5)
  have c_need_hall := (ok_need_hall (P := P) (w := w) (base := base) T).mono (by decide : 5 ≤ 5)
  exact fnM_mk (k := 5) F sc_towers hm (F.binds fun _ _ _ _ _ _ us hl => match us, hl with | [_], _ => rfl) fun cdv A out s H E hr hg => (ss_cons (ss_do (s_call c_need_hall hr hg (L2N.takes_of rfl rfl rfl rfl) (sa_cons (s_var 0) sa_nil))) (ss_one (ss_ret (s_call c_towers_of hr hg (L2N.takes_of rfl rfl rfl rfl) (sa_cons (s_var 0) sa_nil)))))
theorem sc__law_alike : FnScope ["found", "due", "k"] ["found", "due"] (defScope (kst 25)) := ⟨rfl, rfl, rfl, by decide +kernel, rfl, by decide +kernel, by decide +kernel⟩
theorem okr__law_alike (T : Txt K mg) : ∀ n : Nat, FnM P w K mg base (1 + n) "_law_alike" ["found", "due"] (f__law_alike_8dc4_r n)
  | 0 => by
    obtain ⟨f, fd, hm, F⟩ := T.f__law_alike
    exact fnM_bad F hm (F.binds fun _ _ _ _ _ _ us hl => match us, hl with | [_, _], _ => rfl)
  | n + 1 => by
    obtain ⟨f, fd, hm, F⟩ := T.f__law_alike
    have c__law_alike := okr__law_alike T n
    exact fnM_mk (k := 1 + n) F sc__law_alike hm (F.binds fun _ _ _ _ _ _ us hl => match us, hl with | [_, _], _ => rfl) fun cdv A out s H E hr hg => (ss_cons (ss_if (st_val (s_blt call_isiT v_isi2 T.n_isinstance (by rfl) (sa_cons (s_var 1) (sa_cons (s_tup (sa_cons (s_ty T.n_list (by rfl)) (sa_cons (s_ty T.n_tuple (by rfl)) sa_nil))) sa_nil)))) (ss_cons (ss_if (st_cmp (op_neD hr.units) v_ne (s_blt call_isi v_isi T.n_isinstance (by rfl) (sa_cons (s_var 0) (sa_cons (s_ty T.n_list (by rfl)) sa_nil))) (s_blt call_isi v_isi T.n_isinstance (by rfl) (sa_cons (s_var 1) (sa_cons (s_ty T.n_list (by rfl)) sa_nil)))) (ss_one (ss_ret s_bl)) ss_nil) (ss_cons (ss_if (st_cmp (op_neD hr.units) v_ne (s_blt call_isi v_isi T.n_isinstance (by rfl) (sa_cons (s_var 0) (sa_cons (s_ty T.n_tuple (by rfl)) sa_nil))) (s_blt call_isi v_isi T.n_isinstance (by rfl) (sa_cons (s_var 1) (sa_cons (s_ty T.n_tuple (by rfl)) sa_nil)))) (ss_one (ss_ret s_bl)) ss_nil) (ss_cons (ss_if (st_cmp (op_neD hr.units) v_ne (s_blt call_len v_len T.n_len (by rfl) (sa_cons (s_var 0) sa_nil)) (s_blt call_len v_len T.n_len (by rfl) (sa_cons (s_var 1) sa_nil))) (ss_one (ss_ret s_bl)) ss_nil) (ss_one (ss_ret (s_blt (cr_all rfl) v_all T.n_all (by rfl) (sa_cons (s_lc (own := [("k", 2)]) rfl sc__law_alike.nd (SI.weak (si_range1 T.n_range (sa_cons (s_blt call_len v_len T.n_len (by rfl) (sa_cons (s_var 1) sa_nil)) sa_nil))) (blkOk_by rfl) (fun _ _ _ _ _ => (sg_nm 2 sc__law_alike.nd)) (fun _ _ _ _ _ => sts_nil) (fun _ _ _ _ _ => (s_call c__law_alike hr hg takes0N (sa_cons (s_ix (s_var 0) (s_var 2)) (sa_cons (s_ix (s_var 1) (s_var 2)) sa_nil))))) sa_nil))))))) ss_nil) (ss_cons (ss_if (SW.st (sw_or (st_cmp op_isN v_isN (s_var 0) s_non) (sw_or1 (st_cmp op_isN v_isN (s_var 1) s_non)))) (ss_one (ss_ret (s_and (s_cmp op_isN v_isN (s_var 0) s_non) (s_one (s_cmp op_isN v_isN (s_var 1) s_non))))) ss_nil) (ss_one (ss_ret (s_and (s_cmp (op_eqD hr.units) v_eq (s_blt call_isi v_isi T.n_isinstance (by rfl) (sa_cons (s_var 0) (sa_cons (s_ty T.n_bool (by rfl)) sa_nil))) (s_blt call_isi v_isi T.n_isinstance (by rfl) (sa_cons (s_var 1) (sa_cons (s_ty T.n_bool (by rfl)) sa_nil)))) (s_one (s_cmp (op_eqD hr.units) v_eq (s_var 0) (s_var 1))))))))
theorem ok__law_alike (T : Txt K mg) : FnM P w K mg base 9 "_law_alike" ["found", "due"] f__law_alike_8dc4 := okr__law_alike T 8
theorem sc__law_cell_at : FnScope ["script", "k"] ["script", "k"] (defScope (kst 19)) := ⟨rfl, rfl, rfl, by decide +kernel, rfl, by decide +kernel, by decide +kernel⟩
theorem ok__law_cell_at (T : Txt K mg) : FnM P w K mg base 1 "_law_cell_at" ["script", "k"] f__law_cell_at := by
  obtain ⟨f, fd, hm, F⟩ := T.f__law_cell_at
  exact fnM_mk (k := 0) F sc__law_cell_at hm (F.binds fun _ _ _ _ _ _ us hl => match us, hl with | [_, _], _ => rfl) fun cdv A out s H E hr hg => (ss_cons (ss_if (st_cmp op_lt v_cmpI (s_var 1) (s_blt call_len v_len T.n_len (by rfl) (sa_cons (s_var 0) sa_nil))) (ss_one (ss_ret (s_ix (s_var 0) (s_var 1)))) ss_nil) (ss_one (ss_ret s_int)))
theorem sc_law : FnScope ["script", "k", "bag", "rooms", "before", "due", "told"] ["script"] (defScope (kst 27)) := ⟨rfl, rfl, rfl, by decide +kernel, rfl, by decide +kernel, by decide +kernel⟩
theorem ok_law {f : Addr} {fd : FuncData} (T : Txt K mg) (F : Fun K "law" "law" (kst 27) f fd) : FnG P w K mg base 10 f fd ["script"] (spF K mg f_law) := by
  have c_towers := (ok_towers (P := P) (w := w) (base := base) T).mono (by decide : 6 ≤ 9)
  have c__law_alike := (ok__law_alike (P := P) (w := w) (base := base) T).mono (by decide : 9 ≤ 9)
  have c__law_due := (ok__law_due (P := P) (w := w) (base := base) T).mono (by decide : 2 ≤ 9)
  have c__law_hall := (ok__law_hall (P := P) (w := w) (base := base) T).mono (by decide : 3 ≤ 9)
  have c__law_cell_at := (ok__law_cell_at (P := P) (w := w) (base := base) T).mono (by decide : 1 ≤ 9)
  have c__law_bag := (ok__law_bag (P := P) (w := w) (base := base) T).mono (by decide : 1 ≤ 9)
  exact fnG_mk (k := 9) F sc_law fun cdv A out s H E hr hg => (ss_cons (ss_forP (passes_of rfl) rfl (si_range1 T.n_range (sa_cons (s_blt (call_max2 rfl) v_max2 T.n_max (by rfl) (sa_cons s_int (sa_cons (s_blt (call_min2 rfl) v_min2 T.n_min (by rfl) (sa_cons s_int (sa_cons (s_blt call_len v_len T.n_len (by rfl) (sa_cons (s_var 0) sa_nil)) sa_nil))) sa_nil))) sa_nil)) (sg_nm 1 sc_law.nd) (ss_cons (ss_setD 2 [true, true] sc_law.nd (s_call c__law_bag hr hg (L2N.takes_of rfl rfl rfl rfl) (sa_cons (s_bin o_add v_add (s_call c__law_cell_at hr hg (L2N.takes_of rfl rfl rfl rfl) (sa_cons (s_var 0) (sa_cons (s_var 1) sa_nil))) s_int) sa_nil))) (ss_cons (ss_setD 3 [false, false, true] sc_law.nd (s_call c__law_hall hr hg (L2N.takes_of rfl rfl rfl rfl) (sa_cons (s_var 2) (sa_cons s_int (sa_cons s_int (sa_cons s_bl sa_nil)))))) (ss_cons (ss_setD 4 [false, false, false, true] sc_law.nd (s_blt (cr_repr hr.units hg) v_repr T.n_repr (by rfl) (sa_cons (s_var 3) sa_nil))) (ss_cons (ss_setD 5 [false, false, false, true] sc_law.nd (s_call c__law_due hr hg (L2N.takes_of rfl rfl rfl rfl) (sa_cons (s_var 3) sa_nil))) (ss_cons (ss_setD 6 [false, false, false, true] sc_law.nd (s_call c_towers hr hg (L2N.takes_of rfl rfl rfl rfl) (sa_cons (s_var 3) sa_nil))) (ss_cons (ss_if (SW.st (sw_or (st_not (st_val (s_call c__law_alike hr hg (L2N.takes_of rfl rfl rfl rfl) (sa_cons (s_var 6) (sa_cons (s_var 5) sa_nil))))) (sw_or1 (st_cmp (op_neD hr.units) v_ne (s_blt (cr_repr hr.units hg) v_repr T.n_repr (by rfl) (sa_cons (s_var 3) sa_nil)) (s_var 4))))) (ss_one (ss_ret s_bl)) ss_nil) (ss_cons (ss_appT 6 s_int s_int) (ss_cons (ss_if (st_not (st_val (s_call c__law_alike hr hg (L2N.takes_of rfl rfl rfl rfl) (sa_cons (s_fz (s_ix (s_var 6) s_int)) (sa_cons (s_fz (s_ix (s_var 5) s_int)) sa_nil))))) (ss_one (ss_ret s_bl)) ss_nil) (ss_cons (ss_appT 6 s_int s_int) (ss_one (ss_if (st_not (st_val (s_call c__law_alike hr hg (L2N.takes_of rfl rfl rfl rfl) (sa_cons (s_fz (s_callK (fnK_mk c_towers T.f_towers.choose_spec.choose_spec.2 T.f_towers.choose_spec.choose_spec.1 ["hall"] [] fun _ _ _ _ _ _ ws hl => match ws, hl with | [_], _ => rfl) hr hg (L2N.takes_of rfl rfl rfl rfl) (sk_cons (s_var 3) sk_nil))) (sa_cons (s_var 5) sa_nil))))) (ss_one (ss_ret s_bl)) ss_nil)))))))))))) (ss_one (ss_ret s_bl)))
end
end Zm
set_option linter.all false
set_option autoImplicit false
/-! MV: minutes moved between two rows: plain. -/
namespace Mv
def ps (a : Nat → Int) : Nat → Int
  | 0 => 0
  | k + 1 => ps a k + a k
/-- the greatest worth from the first to the k-th, of two rows -/
def gw (a b : Nat → Int) : Nat → Int
  | 0 => 0
  | k + 1 => max (gw a b k) (ps a (k + 1)) + b k
/-- a way that changes over at c -/
def val (a b : Nat → Int) (p q c : Nat) : Int := ps a (c + 1) - ps a p + (ps b (q + 1) - ps b c)
def Dom (m : Nat) (a b a' b' : Nat → Int) : Prop := ∀ p q c, p ≤ c → c ≤ q → q < m → ∃ c', p ≤ c' ∧ c' ≤ q ∧ val a b p q c ≤ val a' b' p q c'
theorem Dom.refl {m : Nat} {a b : Nat → Int} : Dom m a b a b := fun p q c h1 h2 _ => ⟨c, h1, h2, Int.le_refl _⟩
theorem Dom.trans {m : Nat} {a b a' b' a2 b2 : Nat → Int} (h : Dom m a b a' b') (h' : Dom m a' b' a2 b2) : Dom m a b a2 b2 := fun p q c h1 h2 h3 => by
  obtain ⟨c', e1, e2, e3⟩ := h p q c h1 h2 h3
  obtain ⟨d, f1, f2, f3⟩ := h' p q c' e1 e2 h3
  exact ⟨d, f1, f2, Int.le_trans e3 f3⟩
theorem ps_congr {a a' : Nat → Int} : ∀ {k : Nat}, (∀ c, c < k → a c = a' c) → ps a k = ps a' k
  | 0, _ => rfl
  | k + 1, h => by simp only [ps]; rw [ps_congr fun c hc => h c (by omega), h k (by omega)]
theorem gw_congr {a b a' b' : Nat → Int} : ∀ {k : Nat}, (∀ c, c < k → a c = a' c ∧ b c = b' c) → gw a b k = gw a' b' k
  | 0, _ => rfl
  | k + 1, h => by
    simp only [gw]
    rw [gw_congr fun c hc => h c (by omega), ps_congr (k := k + 1) fun c hc => (h c (by omega)).1, (h k (by omega)).2]
theorem Dom.congr {m : Nat} {a b a' b' : Nat → Int} (h : ∀ c, c < m → a c = a' c ∧ b c = b' c) : Dom m a b a' b' := fun p q c h1 h2 h3 => by
  refine ⟨c, h1, h2, ?_⟩
  unfold val
  rw [ps_congr (k := c + 1) fun d hd => (h d (by omega)).1, ps_congr (k := p) fun d hd => (h d (by omega)).1, ps_congr (k := q + 1) fun d hd => (h d (by omega)).2, ps_congr (k := c) fun d hd => (h d (by omega)).2]
  omega
/-- gw is the greatest of all ways from the first -/
theorem gw_le {a b : Nat → Int} : ∀ {q c : Nat}, c ≤ q → val a b 0 q c ≤ gw a b (q + 1)
  | 0, c, h => by
    have : c = 0 := by omega
    subst this
    simp only [val, gw, ps]; omega
  | q + 1, c, h => by
    simp only [gw]
    by_cases e : c = q + 1
    · subst e; simp only [val, ps]; omega
    · have ih := gw_le (a := a) (b := b) (q := q) (c := c) (by omega)
      have h1 : val a b 0 (q + 1) c = val a b 0 q c + b (q + 1) := by simp only [val, ps]; omega
      simp only [gw] at ih
      rw [h1]; omega
theorem gw_is {a b : Nat → Int} (h : 0 ≤ a 0) : ∀ (q : Nat), ∃ c, c ≤ q ∧ gw a b (q + 1) = val a b 0 q c
  | 0 => ⟨0, Nat.le_refl _, by simp only [gw, val, ps]; omega⟩
  | q + 1 => by
    obtain ⟨c, h1, h2⟩ := gw_is (a := a) (b := b) h q
    by_cases e : gw a b (q + 1) ≤ ps a (q + 2)
    · refine ⟨q + 1, Nat.le_refl _, ?_⟩
      have : gw a b (q + 1 + 1) = max (gw a b (q + 1)) (ps a (q + 2)) + b (q + 1) := rfl
      rw [this]
      simp only [val, ps] at e ⊢; omega
    · refine ⟨c, by omega, ?_⟩
      have e1 : gw a b (q + 1 + 1) = max (gw a b (q + 1)) (ps a (q + 2)) + b (q + 1) := rfl
      have e2 : val a b 0 (q + 1) c = val a b 0 q c + b (q + 1) := by simp only [val, ps]; omega
      rw [e1, e2]; omega
theorem Dom.gw {m : Nat} {a b a' b' : Nat → Int} (h : Dom m a b a' b') (h0 : 0 ≤ a 0) {q : Nat} (hq : q < m) : gw a b (q + 1) ≤ gw a' b' (q + 1) := by
  obtain ⟨c, c1, c2⟩ := gw_is (b := b) h0 q
  obtain ⟨c', d1, d2, d3⟩ := h 0 q c (by omega) c1 hq
  have := gw_le (a := a') (b := b') d2
  omega
/-! one minute moved -/
def lead (a b : Nat → Int) (c : Nat) : Int := ps a (c + 1) - ps b c
def mva (a : Nat → Int) (k : Nat) : Nat → Int := fun c => if c = k then a c - 1 else a c
def mvb (b : Nat → Int) (k : Nat) : Nat → Int := fun c => if c = k then b c + 1 else b c
theorem ps_mva {a : Nat → Int} {k : Nat} : ∀ j, ps (mva a k) j = ps a j - (if k < j then 1 else 0)
  | 0 => by simp [ps]
  | j + 1 => by
    simp only [ps, ps_mva j, mva]
    by_cases e : j = k
    · subst e; simp; omega
    · rw [if_neg e]
      by_cases c : k < j
      · rw [if_pos c, if_pos (by omega)]; omega
      · rw [if_neg c, if_neg (by omega)]; omega
theorem ps_mvb {a : Nat → Int} {k : Nat} : ∀ j, ps (mvb a k) j = ps a j + (if k < j then 1 else 0)
  | 0 => by simp [ps]
  | j + 1 => by
    simp only [ps, ps_mvb j, mvb]
    by_cases e : j = k
    · subst e; simp; omega
    · rw [if_neg e]
      by_cases c : k < j
      · rw [if_pos c, if_pos (by omega)]; omega
      · rw [if_neg c, if_neg (by omega)]; omega
theorem val_mv {a b : Nat → Int} {k p q c : Nat} (h1 : p ≤ c) (h2 : c ≤ q) : val (mva a k) (mvb b k) p q c = val a b p q c + (if k < p then 1 else 0) + (if k ≤ q then 1 else 0) - (if k ≤ c then 1 else 0) - (if k < c then 1 else 0) := by
  simp only [val, ps_mva, ps_mvb]
  have e1 : (k < c + 1) = (k ≤ c) := by simp [Nat.lt_succ_iff]
  have e2 : (k < q + 1) = (k ≤ q) := by simp [Nat.lt_succ_iff]
  simp only [e1, e2]
  omega
/-- the first one at whom the lead is greatest -/
structure First (a b : Nat → Int) (m k : Nat) : Prop where
  lt : k < m
  ge : ∀ c, c < m → lead a b c ≤ lead a b k
  first : ∀ c, c < k → lead a b c < lead a b k
theorem val_lead {a b : Nat → Int} {p q c : Nat} : val a b p q c = lead a b c - ps a p + ps b (q + 1) := by simp only [val, lead]; omega
theorem move_dom {a b : Nat → Int} {m k : Nat} (f : First a b m k) : Dom m a b (mva a k) (mvb b k) ∧ Dom m (mva a k) (mvb b k) a b := by
  have hk := f.lt
  refine ⟨fun p q c h1 h2 h3 => ?_, fun p q c h1 h2 h3 => ?_⟩
  · by_cases e : p ≤ k ∧ k ≤ q
    · refine ⟨k, e.1, e.2, ?_⟩
      have := f.ge c (by omega)
      rw [val_mv e.1 e.2, if_neg (by omega), if_pos e.2, if_pos (Nat.le_refl _), if_neg (by omega)]
      rw [val_lead, val_lead]; omega
    · refine ⟨c, h1, h2, ?_⟩
      rw [val_mv h1 h2]
      by_cases c1 : k < p
      · rw [if_pos c1, if_pos (by omega), if_pos (by omega), if_pos (by omega)]; omega
      · rw [if_neg c1, if_neg (by omega), if_neg (by omega), if_neg (by omega)]; omega
  · by_cases e : p ≤ k ∧ k ≤ q
    · refine ⟨k, e.1, e.2, ?_⟩
      have g := f.ge c (by omega)
      rw [val_mv h1 h2, if_neg (by omega), if_pos e.2]
      rw [val_lead, val_lead]
      by_cases c1 : k ≤ c
      · rw [if_pos c1]
        by_cases c2 : k < c
        · rw [if_pos c2]; omega
        · rw [if_neg c2]; omega
      · have := f.first c (by omega)
        rw [if_neg c1, if_neg (by omega)]; omega
    · refine ⟨c, h1, h2, ?_⟩
      rw [val_mv h1 h2]
      by_cases c1 : k < p
      · rw [if_pos c1, if_pos (by omega), if_pos (by omega), if_pos (by omega)]; omega
      · rw [if_neg c1, if_neg (by omega), if_neg (by omega), if_neg (by omega)]; omega
theorem first_ex (a b : Nat → Int) : ∀ m, 0 < m → ∃ k, First a b m k
  | 1, _ => ⟨0, by omega, fun c hc => by have : c = 0 := by omega
                                         subst this; exact Int.le_refl _, fun c hc => by omega⟩
  | m + 2, _ => by
    obtain ⟨k, f⟩ := first_ex a b (m + 1) (by omega)
    by_cases e : lead a b (m + 1) ≤ lead a b k
    · refine ⟨k, by have := f.lt; omega, fun c hc => ?_, f.first⟩
      by_cases q : c = m + 1
      · subst q; exact e
      · exact f.ge c (by omega)
    · refine ⟨m + 1, by omega, fun c hc => ?_, fun c hc => ?_⟩
      · by_cases q : c = m + 1
        · subst q; exact Int.le_refl _
        · have := f.ge c (by omega); omega
      · have := f.ge c (by omega); omega
theorem gw_lead {a b : Nat → Int} {m k : Nat} (h0 : 0 ≤ a 0) (f : First a b m k) : gw a b m = lead a b k + ps b m := by
  have hk := f.lt
  obtain ⟨m', rfl⟩ : ∃ m', m = m' + 1 := ⟨m - 1, by omega⟩
  obtain ⟨c, c1, c2⟩ := gw_is (b := b) h0 m'
  have h1 := gw_le (a := a) (b := b) (q := m') (c := k) (by omega)
  have h2 := f.ge c (by omega)
  rw [val_lead] at c2 h1
  simp only [ps] at c2 h1 ⊢
  omega
/-- where the greatest lead is above nought, the first one has a minute -/
theorem first_pos {a b : Nat → Int} {m k : Nat} (hb : ∀ c, c < m → 0 ≤ b c) (f : First a b m k) (h : 0 < lead a b k) : 0 < a k := by
  have hk := f.lt
  cases k with
  | zero => simp only [lead, ps] at h; omega
  | succ k =>
    have := f.first k (by omega)
    have := hb k (by omega)
    simp only [lead, ps] at this h ⊢
    have q := f.first k (by omega)
    simp only [lead, ps] at q
    omega
/-! rows of a wished total -/
def rb (W : Nat → Int) (k : Nat) (T : Int) : Int := W (k + 1) - max (W k) T
def ra (W both : Nat → Int) (k : Nat) (T : Int) : Int := both k - rb W k T
def recon (W both : Nat → Int) : Nat → Int → List (Int × Int)
  | 0, _ => []
  | k + 1, T => recon W both k (T - ra W both k T) ++ [(ra W both k T, rb W k T)]
def fa (l : List (Int × Int)) (c : Nat) : Int := (l.getD c (0, 0)).1
def fb (l : List (Int × Int)) (c : Nat) : Int := (l.getD c (0, 0)).2
theorem recon_len {W both : Nat → Int} : ∀ (k : Nat) (T : Int), (recon W both k T).length = k
  | 0, _ => rfl
  | k + 1, T => by simp [recon, recon_len k]
theorem f_old {l : List (Int × Int)} {x : Int × Int} {c : Nat} (h : c < l.length) : fa (l ++ [x]) c = fa l c ∧ fb (l ++ [x]) c = fb l c := by
  unfold fa fb
  simp [List.getD_eq_getElem?_getD, List.getElem?_append_left h]
theorem f_new {l : List (Int × Int)} {x : Int × Int} : fa (l ++ [x]) l.length = x.1 ∧ fb (l ++ [x]) l.length = x.2 := by
  unfold fa fb
  simp [List.getD_eq_getElem?_getD]
/-- how the greatest worths and the sums of so many go together -/
structure Lace (W both : Nat → Int) (m : Nat) : Prop where
  z : W 0 = 0
  up : ∀ c, c < m → W c ≤ W (c + 1)
  s1 : ∀ c, c < m → ps both c - W c ≤ ps both (c + 1) - W (c + 1)
  s2 : ∀ c, c < m → ps both (c + 1) - W (c + 1) ≤ W c
theorem recon_ok {W both : Nat → Int} : ∀ {m : Nat} {T : Int}, Lace W both m → ps both m - W m ≤ T → T ≤ W m →
    (∀ c, c < m → 0 ≤ fa (recon W both m T) c ∧ 0 ≤ fb (recon W both m T) c ∧ fa (recon W both m T) c + fb (recon W both m T) c = both c) ∧
    ps (fa (recon W both m T)) m = T ∧ ∀ c, c ≤ m → gw (fa (recon W both m T)) (fb (recon W both m T)) c = W c
  | 0, T, L, h1, h2 => by
    have := L.z
    simp only [ps] at h1
    refine ⟨fun c hc => by omega, by simp only [ps]; omega, fun c hc => ?_⟩
    have : c = 0 := by omega
    subst this; simp only [gw]; omega
  | m + 1, T, L, h1, h2 => by
    have u := L.up m (by omega)
    have s1 := L.s1 m (by omega)
    have s2 := L.s2 m (by omega)
    have L' : Lace W both m := ⟨L.z, fun c hc => L.up c (by omega), fun c hc => L.s1 c (by omega), fun c hc => L.s2 c (by omega)⟩
    have ps1 : ps both (m + 1) = ps both m + both m := rfl
    obtain ⟨i1, i2, i3⟩ := recon_ok (m := m) (T := T - ra W both m T) L' (by unfold ra rb; omega) (by unfold ra rb; omega)
    have hl := recon_len (W := W) (both := both) m (T - ra W both m T)
    have old : ∀ c, c < m → fa (recon W both (m + 1) T) c = fa (recon W both m (T - ra W both m T)) c ∧ fb (recon W both (m + 1) T) c = fb (recon W both m (T - ra W both m T)) c := fun c hc => f_old (by omega)
    have new : fa (recon W both (m + 1) T) m = ra W both m T ∧ fb (recon W both (m + 1) T) m = rb W m T := by
      have := f_new (l := recon W both m (T - ra W both m T)) (x := (ra W both m T, rb W m T))
      rw [hl] at this; exact this
    have pm : ps (fa (recon W both (m + 1) T)) m = T - ra W both m T := by
      rw [ps_congr fun c hc => (old c hc).1]; exact i2
    refine ⟨fun c hc => ?_, ?_, fun c hc => ?_⟩
    · by_cases e : c = m
      · subst e; rw [new.1, new.2]; unfold ra rb; omega
      · rw [(old c (by omega)).1, (old c (by omega)).2]; exact i1 c (by omega)
    · show ps _ m + _ = _
      rw [pm, new.1]; omega
    · by_cases e : c = m + 1
      · subst e
        show max (gw _ _ m) (ps _ (m + 1)) + _ = _
        rw [gw_congr fun c hc => old c hc, i3 m (Nat.le_refl _), new.2]
        have : ps (fa (recon W both (m + 1) T)) (m + 1) = T := by show ps _ m + _ = _; rw [pm, new.1]; omega
        rw [this]; unfold rb; omega
      · rw [gw_congr fun d hd => old d (by omega)]; exact i3 c (by omega)
/-- there is just one such -/
theorem recon_one {a b : Nat → Int} : ∀ (m : Nat), ∀ (W both : Nat → Int), (∀ c, c ≤ m → gw a b c = W c) → (∀ c, c < m → a c + b c = both c) → ∀ c, c < m → fa (recon W both m (ps a m)) c = a c ∧ fb (recon W both m (ps a m)) c = b c
  | 0, _, _, _, _, c, hc => by omega
  | m + 1, W, both, h1, h2, c, hc => by
    have e1 : rb W m (ps a (m + 1)) = b m := by
      have := h1 (m + 1) (Nat.le_refl _)
      have q := h1 m (by omega)
      have g : gw a b (m + 1) = max (gw a b m) (ps a (m + 1)) + b m := rfl
      unfold rb; omega
    have e2 : ra W both m (ps a (m + 1)) = a m := by
      have := h2 m (by omega)
      unfold ra; rw [e1]; omega
    have e3 : ps a (m + 1) - ra W both m (ps a (m + 1)) = ps a m := by rw [e2]; simp only [ps]; omega
    have hl := recon_len (W := W) (both := both) m (ps a m)
    have er : recon W both (m + 1) (ps a (m + 1)) = recon W both m (ps a m) ++ [(a m, b m)] := by
      show recon W both m (ps a (m + 1) - ra W both m (ps a (m + 1))) ++ [_] = _
      rw [e3, e1, e2]
    rw [er]
    by_cases e : c = m
    · subst e
      have := f_new (l := recon W both c (ps a c)) (x := (a c, b c))
      rw [hl] at this; exact this
    · have := f_old (l := recon W both m (ps a m)) (x := (a m, b m)) (c := c) (by omega)
      rw [this.1, this.2]
      exact recon_one m W both (fun d hd => h1 d (by omega)) (fun d hd => h2 d (by omega)) c (by omega)
/-- two rows lace -/
theorem lace_of {a b : Nat → Int} {m : Nat} (ha : ∀ c, c < m → 0 ≤ a c) (hb : ∀ c, c < m → 0 ≤ b c) : Lace (gw a b) (fun c => a c + b c) m := by
  have psB : ∀ k, ps (fun c => a c + b c) k = ps a k + ps b k := by
    intro k
    induction k with
    | zero => rfl
    | succ k ih => simp only [ps, ih]; omega
  have ge : ∀ c, c ≤ m → ps a c ≤ gw a b c ∧ ps b c ≤ gw a b c := by
    intro c
    induction c with
    | zero => exact fun _ => ⟨Int.le_refl _, Int.le_refl _⟩
    | succ c ih =>
      intro h
      have := ih (by omega)
      have := hb c (by omega)
      simp only [gw, ps]
      omega
  refine ⟨rfl, fun c hc => ?_, fun c hc => ?_, fun c hc => ?_⟩
  · have := hb c hc; simp only [gw]; omega
  · have := ge c (by omega)
    have := ha c hc
    rw [psB, psB]; simp only [gw, ps]; omega
  · have := ge c (by omega)
    rw [psB]; simp only [gw, ps]; omega
def Eqv (m : Nat) (a b a' b' : Nat → Int) : Prop := Dom m a b a' b' ∧ Dom m a' b' a b
theorem Eqv.symm {m : Nat} {a b a' b' : Nat → Int} (h : Eqv m a b a' b') : Eqv m a' b' a b := ⟨h.2, h.1⟩
theorem Eqv.trans {m : Nat} {a b a' b' a2 b2 : Nat → Int} (h : Eqv m a b a' b') (h' : Eqv m a' b' a2 b2) : Eqv m a b a2 b2 := ⟨h.1.trans h'.1, h'.2.trans h.2⟩
/-- one fewer, by one move -/
theorem recon_step {W both : Nat → Int} {m : Nat} {T : Int} (hm : 0 < m) (L : Lace W both m) (h1 : ps both m - W m < T) (h2 : T ≤ W m) :
    ∃ k, First (fa (recon W both m T)) (fb (recon W both m T)) m k ∧ (∀ c, c < m → fa (recon W both m (T - 1)) c = mva (fa (recon W both m T)) k c ∧ fb (recon W both m (T - 1)) c = mvb (fb (recon W both m T)) k c) := by
  obtain ⟨i1, i2, i3⟩ := recon_ok L (by omega) h2
  generalize fa (recon W both m T) = a at i1 i2 i3 ⊢
  generalize fb (recon W both m T) = b at i1 i2 i3 ⊢
  obtain ⟨k, f⟩ := first_ex a b m hm
  have hk := f.lt
  have g := gw_lead (i1 0 hm).1 f
  rw [i3 m (Nat.le_refl _)] at g
  have psB : ∀ k, k ≤ m → ps both k = ps a k + ps b k := by
    intro k
    induction k with
    | zero => exact fun _ => rfl
    | succ k ih => intro h; have := ih (by omega); have := (i1 k (by omega)).2.2; simp only [ps]; omega
  have pb := psB m (Nat.le_refl _)
  have pos := first_pos (fun c hc => (i1 c hc).2.1) f (by omega)
  obtain ⟨d1, d2⟩ := move_dom f
  have a0 : 0 ≤ mva a k 0 := by
    unfold mva
    split
    · rename_i e; subst e; omega
    · exact (i1 0 hm).1
  have gws : ∀ c, c ≤ m → gw (mva a k) (mvb b k) c = W c := fun c hc => by
    cases c with
    | zero => exact L.z.symm
    | succ c =>
      have := d1.gw (i1 0 hm).1 (q := c) (by omega)
      have := d2.gw a0 (q := c) (by omega)
      have := i3 (c + 1) hc
      omega
  have bo : ∀ c, c < m → mva a k c + mvb b k c = both c := fun c hc => by
    have := (i1 c hc).2.2
    unfold mva mvb
    split <;> omega
  have pT : ps (mva a k) m = T - 1 := by rw [ps_mva, if_pos hk, i2]
  refine ⟨k, f, fun c hc => ?_⟩
  have := recon_one m W both gws bo c hc
  rw [pT] at this; exact this
theorem recon_down {W both : Nat → Int} {m : Nat} (hm : 0 < m) (L : Lace W both m) : ∀ (n : Nat) (T : Int), ps both m - W m ≤ T - n → T ≤ W m → Eqv m (fa (recon W both m T)) (fb (recon W both m T)) (fa (recon W both m (T - n))) (fb (recon W both m (T - n)))
  | 0, T, _, _ => by simp only [Int.natCast_zero, Int.sub_zero]; exact ⟨.refl, .refl⟩
  | n + 1, T, h1, h2 => by
    obtain ⟨k, f, e⟩ := recon_step hm L (T := T) (by omega) h2
    have ih := recon_down hm L n (T - 1) (by omega) (by omega)
    rw [show T - ((n + 1 : Nat) : Int) = T - 1 - n by omega]
    obtain ⟨d1, d2⟩ := move_dom f
    refine Eqv.trans ⟨d1.trans (Dom.congr fun c hc => ⟨(e c hc).1.symm, (e c hc).2.symm⟩), (Dom.congr fun c hc => e c hc).trans d2⟩ ih
/-- all that have these worths and sums are alike everywhere -/
theorem recon_all {W both : Nat → Int} {m : Nat} (hm : 0 < m) (L : Lace W both m) {T U : Int} (h1 : ps both m - W m ≤ T) (h2 : T ≤ W m) (h3 : ps both m - W m ≤ U) (h4 : U ≤ W m) : Eqv m (fa (recon W both m T)) (fb (recon W both m T)) (fa (recon W both m U)) (fb (recon W both m U)) := by
  by_cases e : U ≤ T
  · have := recon_down hm L (T - U).toNat T (by omega) h2
    rw [show T - ((T - U).toNat : Int) = U by omega] at this; exact this
  · have := recon_down hm L (U - T).toNat U (by omega) h4
    rw [show U - ((U - T).toNat : Int) = T by omega] at this; exact this.symm
/-- two rows, and those of another total -/
theorem two_all {a b : Nat → Int} {m : Nat} (hm : 0 < m) (ha : ∀ c, c < m → 0 ≤ a c) (hb : ∀ c, c < m → 0 ≤ b c) {T : Int} (h1 : ps a m + ps b m - gw a b m ≤ T) (h2 : T ≤ gw a b m) :
    Eqv m a b (fa (recon (gw a b) (fun c => a c + b c) m T)) (fb (recon (gw a b) (fun c => a c + b c) m T)) := by
  have L := lace_of ha hb
  have psB : ∀ k, ps (fun c => a c + b c) k = ps a k + ps b k := by
    intro k
    induction k with
    | zero => rfl
    | succ k ih => simp only [ps, ih]; omega
  have ge : ∀ c, c ≤ m → ps a c ≤ gw a b c ∧ ps b c ≤ gw a b c := by
    intro c
    induction c with
    | zero => exact fun _ => ⟨Int.le_refl _, Int.le_refl _⟩
    | succ c ih =>
      intro h
      have := ih (by omega)
      have := hb c (by omega)
      simp only [gw, ps]
      omega
  have gm := ge m (Nat.le_refl _)
  have one := recon_one m (gw a b) (fun c => a c + b c) (fun c _ => rfl) (fun c _ => rfl)
  have := recon_all hm L (T := ps a m) (U := T) (by rw [psB]; omega) gm.1 (by rw [psB]; omega) h2
  exact Eqv.trans ⟨Dom.congr fun c hc => ⟨(one c hc).1.symm, (one c hc).2.symm⟩, Dom.congr fun c hc => one c hc⟩ this
end Mv
set_option linter.all false
set_option autoImplicit false
set_option maxRecDepth 100000
/-! GJ: ways of many that never meet; what is settled is the only one of its class. Plain. -/
namespace Mv
/-- a row's minutes from p to q -/
def seg (a : Nat → Int) (p q : Nat) : Int := ps a (q + 1) - ps a p
/-- j ways through n rows that never meet: S r t is where the t-th comes into the r-th row -/
structure Sys (n j f : Nat) (S : Nat → Nat → Nat) : Prop where
  le : ∀ r t, r < n → t < j → S r t ≤ S (r + 1) t
  lt : ∀ r t, r < n → t + 1 < j → S (r + 1) t < S r (t + 1)
  fr : ∀ t, t < j → f ≤ S 0 t
def rwt (a : Nat → Int) (P Q : Nat → Nat) (j : Nat) : Int := ps (fun t => seg a (P t) (Q t)) j
def wt (w : Nat → Nat → Int) (n j : Nat) (S : Nat → Nat → Nat) : Int := ps (fun r => rwt (w r) (S r) (S (r + 1)) j) n
def DomX (a b a' b' : Nat → Int) : Prop := ∀ p q c, p ≤ c → c ≤ q → ∃ c', p ≤ c' ∧ c' ≤ q ∧ val a b p q c ≤ val a' b' p q c'
theorem ps_z {a : Nat → Int} {m : Nat} (h : ∀ c, m ≤ c → a c = 0) : ∀ {k : Nat}, m ≤ k → ps a k = ps a m
  | 0, hk => by rw [show m = 0 by omega]
  | k + 1, hk => by
    by_cases e : m = k + 1
    · rw [e]
    · simp only [ps]; rw [ps_z h (k := k) (by omega), h k (by omega)]; omega
theorem ps_add {a b : Nat → Int} : ∀ {k : Nat}, ps (fun c => a c + b c) k = ps a k + ps b k
  | 0 => rfl
  | k + 1 => by simp only [ps, ps_add]; omega
theorem domX_of {a b a' b' : Nat → Int} {m : Nat} (za : ∀ c, m ≤ c → a c = 0) (zb : ∀ c, m ≤ c → b c = 0) (za' : ∀ c, m ≤ c → a' c = 0) (zb' : ∀ c, m ≤ c → b' c = 0) (nb : ∀ c, 0 ≤ b c) (D : Dom m a b a' b') : DomX a b a' b' := fun p q c h1 h2 => by
  by_cases hq : q < m
  · exact D p q c h1 h2 hq
  by_cases hp : p < m
  · have e1 : ps b (q + 1) = ps b m := ps_z zb (by omega)
    have e2 : ps b' (q + 1) = ps b' m := ps_z zb' (by omega)
    by_cases hc : c < m
    · obtain ⟨c', a1, a2, a3⟩ := D p (m - 1) c h1 (by omega) (by omega)
      refine ⟨c', a1, by omega, ?_⟩
      unfold val at a3 ⊢
      rw [show m - 1 + 1 = m by omega] at a3
      omega
    · obtain ⟨c', a1, a2, a3⟩ := D p (m - 1) (m - 1) (by omega) (by omega) (by omega)
      refine ⟨c', a1, by omega, ?_⟩
      have e3 : ps a (c + 1) = ps a m := ps_z za (by omega)
      have e4 : ps b c = ps b m := ps_z zb (by omega)
      have e5 : ps b m = ps b (m - 1) + b (m - 1) := by
        conv => lhs; rw [show m = m - 1 + 1 by omega]
        rfl
      have := nb (m - 1)
      unfold val at a3 ⊢
      rw [show m - 1 + 1 = m by omega] at a3
      omega
  · refine ⟨c, h1, h2, ?_⟩
    unfold val
    rw [ps_z za (k := c + 1) (by omega), ps_z za (k := p) (by omega), ps_z zb (k := q + 1) (by omega), ps_z zb (k := c) (by omega), ps_z za' (k := c + 1) (by omega), ps_z za' (k := p) (by omega), ps_z zb' (k := q + 1) (by omega), ps_z zb' (k := c) (by omega)]
    omega
/-- two rows, many ways -/
theorem two_sys {a b a' b' : Nat → Int} {j : Nat} {P Q c : Nat → Nat} (hs : ∀ x, a x + b x = a' x + b' x) (D : DomX a b a' b') (h1 : ∀ t, t < j → P t ≤ c t ∧ c t ≤ Q t)
    (h2 : ∀ t, t + 1 < j → c t < P (t + 1) ∧ Q t < c (t + 1)) :
    ∃ c' : Nat → Nat, (∀ t, t < j → P t ≤ c' t ∧ c' t ≤ Q t) ∧ (∀ t, t + 1 < j → c' t < P (t + 1) ∧ Q t < c' (t + 1)) ∧ rwt a P c j + rwt b c Q j ≤ rwt a' P c' j + rwt b' c' Q j := by
  have pe : ∀ k, ps a k + ps b k = ps a' k + ps b' k := fun k => by
    induction k with
    | zero => rfl
    | succ k ih => have := hs k; simp only [ps]; omega
  obtain ⟨xs, hx⟩ : ∃ xs : Nat → Nat, ∀ t, xs t = if t = 0 then P 0 else max (P t) (Q (t - 1) + 1) := ⟨_, fun _ => rfl⟩
  obtain ⟨ys, hy⟩ : ∃ ys : Nat → Nat, ∀ t, ys t = if t + 1 < j then min (Q t) (P (t + 1) - 1) else Q t := ⟨_, fun _ => rfl⟩
  have ex : ∀ t, ∃ c', t < j → xs t ≤ c' ∧ c' ≤ ys t ∧ val a b (xs t) (ys t) (c t) ≤ val a' b' (xs t) (ys t) c' := fun t => by
    by_cases ht : t < j
    · have b1 := h1 t ht
      have x1 : xs t ≤ c t := by
        rw [hx]
        by_cases z : t = 0
        · subst z; rw [if_pos rfl]; exact b1.1
        · rw [if_neg z]
          have := (h2 (t - 1) (by omega)).2
          rw [show t - 1 + 1 = t by omega] at this
          omega
      have y1 : c t ≤ ys t := by
        rw [hy]
        by_cases z : t + 1 < j
        · rw [if_pos z]; have := (h2 t z).1; omega
        · rw [if_neg z]; exact b1.2
      obtain ⟨c', d⟩ := D (xs t) (ys t) (c t) x1 y1
      exact ⟨c', fun _ => d⟩
    · exact ⟨0, fun h => absurd h ht⟩
  obtain ⟨c', hc⟩ := Classical.axiomOfChoice ex
  have xP : ∀ t, P t ≤ xs t := fun t => by
    rw [hx]
    by_cases z : t = 0
    · subst z; rw [if_pos rfl]; exact Nat.le_refl _
    · rw [if_neg z]; omega
  have yQ : ∀ t, ys t ≤ Q t := fun t => by
    rw [hy]
    by_cases z : t + 1 < j
    · rw [if_pos z]; omega
    · rw [if_neg z]; exact Nat.le_refl _
  refine ⟨c', fun t ht => ⟨Nat.le_trans (xP t) (hc t ht).1, Nat.le_trans (hc t ht).2.1 (yQ t)⟩, fun t ht => ⟨?_, ?_⟩, ?_⟩
  · have u := (hc t (by omega)).2.1
    have v := (h2 t ht).1
    rw [hy, if_pos ht] at u; omega
  · have u := (hc (t + 1) ht).1
    rw [hx, if_neg (by omega), show t + 1 - 1 = t by omega] at u; omega
  · have key : ∀ T, T ≤ j → ps (fun t => seg a (P t) (c t) + seg b (c t) (Q t)) T ≤ ps (fun t => seg a' (P t) (c' t) + seg b' (c' t) (Q t)) T + (if T < j then (ps a' (xs T) - ps a' (P T)) - (ps a (xs T) - ps a (P T)) else 0) := fun T => by
      induction T with
      | zero =>
        intro _
        split
        · have : xs 0 = P 0 := by rw [hx, if_pos rfl]
          rw [this]; simp only [ps]; omega
        · exact Int.le_refl _
      | succ T ih =>
        intro hT
        have ih := ih (by omega)
        rw [if_pos (by omega)] at ih
        have v := (hc T (by omega)).2.2
        have st : (ps b (Q T + 1) - ps b (ys T + 1)) - (ps b' (Q T + 1) - ps b' (ys T + 1)) ≤ (if T + 1 < j then (ps a' (xs (T + 1)) - ps a' (P (T + 1))) - (ps a (xs (T + 1)) - ps a (P (T + 1))) else 0) := by
          by_cases z : T + 1 < j
          · rw [if_pos z]
            have ey := hy T
            have exx := hx (T + 1)
            rw [if_pos z] at ey
            rw [if_neg (by omega), show T + 1 - 1 = T by omega] at exx
            have p1 := (h2 T z).1
            by_cases q : Q T + 1 ≤ P (T + 1)
            · rw [show ys T = Q T by omega, show xs (T + 1) = P (T + 1) by omega]; omega
            · rw [show ys T + 1 = P (T + 1) by omega, show xs (T + 1) = Q T + 1 by omega]
              have := pe (Q T + 1); have := pe (P (T + 1)); omega
          · rw [if_neg z]
            have ey := hy T
            rw [if_neg z] at ey
            rw [ey]; omega
        have g1 : seg a (P T) (c T) + seg b (c T) (Q T) = val a b (xs T) (ys T) (c T) + (ps a (xs T) - ps a (P T)) + (ps b (Q T + 1) - ps b (ys T + 1)) := by unfold seg val; omega
        have g2 : seg a' (P T) (c' T) + seg b' (c' T) (Q T) = val a' b' (xs T) (ys T) (c' T) + (ps a' (xs T) - ps a' (P T)) + (ps b' (Q T + 1) - ps b' (ys T + 1)) := by unfold seg val; omega
        generalize (if T + 1 < j then (ps a' (xs (T + 1)) - ps a' (P (T + 1))) - (ps a (xs (T + 1)) - ps a (P (T + 1))) else 0) = e at st ⊢
        simp only [ps]
        omega
    have := key j (Nat.le_refl _)
    rw [if_neg (by omega)] at this
    unfold rwt
    rw [← ps_add, ← ps_add]; omega
theorem ps_two {F F' : Nat → Int} {i : Nat} (h : ∀ r, r ≠ i → r ≠ i + 1 → F r = F' r) (h2 : F i + F (i + 1) ≤ F' i + F' (i + 1)) : ∀ {n : Nat}, i + 1 < n → ps F n ≤ ps F' n
  | 0, hn => by omega
  | n + 1, hn => by
    by_cases e : n = i + 1
    · subst e
      have := ps_congr (a := F) (a' := F') (k := i) fun c hc => h c (by omega) (by omega)
      simp only [ps]; omega
    · have := ps_two h h2 (n := n) (by omega)
      have := h n (by omega) (by omega)
      simp only [ps]; omega
def Le (n : Nat) (w w' : Nat → Nat → Int) : Prop := ∀ j f S, Sys n j f S → ∃ S', Sys n j f S' ∧ wt w n j S ≤ wt w' n j S'
theorem Le.refl {n : Nat} {w : Nat → Nat → Int} : Le n w w := fun j f S s => ⟨S, s, Int.le_refl _⟩
theorem Le.trans {n : Nat} {w w' w2 : Nat → Nat → Int} (h : Le n w w') (h' : Le n w' w2) : Le n w w2 := fun j f S s => by
  obtain ⟨S1, s1, e1⟩ := h j f S s
  obtain ⟨S2, s2, e2⟩ := h' j f S1 s1
  exact ⟨S2, s2, Int.le_trans e1 e2⟩
theorem le_two {w w' : Nat → Nat → Int} {n i : Nat} (hi : i + 1 < n) (same : ∀ r, r ≠ i → r ≠ i + 1 → w r = w' r) (hs : ∀ x, w i x + w (i + 1) x = w' i x + w' (i + 1) x) (D : DomX (w i) (w (i + 1)) (w' i) (w' (i + 1))) : Le n w w' := fun j f S s => by
  obtain ⟨c', b1, b2, b3⟩ := two_sys (j := j) (P := S i) (Q := S (i + 2)) (c := S (i + 1)) hs D (fun t ht => ⟨s.le i t (by omega) ht, s.le (i + 1) t (by omega) ht⟩) (fun t ht => ⟨s.lt i t (by omega) ht, s.lt (i + 1) t (by omega) ht⟩)
  obtain ⟨S', hS⟩ : ∃ S' : Nat → Nat → Nat, ∀ r, S' r = if r = i + 1 then c' else S r := ⟨_, fun _ => rfl⟩
  have e0 : S' (i + 1) = c' := by rw [hS, if_pos rfl]
  have e1 : ∀ r, r ≠ i + 1 → S' r = S r := fun r h => by rw [hS, if_neg h]
  refine ⟨S', ⟨fun r t hr ht => ?_, fun r t hr ht => ?_, fun t ht => ?_⟩, ?_⟩
  · by_cases z : r = i
    · subst z; rw [e0, e1 r (by omega)]; exact (b1 t ht).1
    · by_cases z2 : r = i + 1
      · subst z2; rw [e0, e1 (i + 1 + 1) (by omega)]; exact (b1 t ht).2
      · rw [e1 r z2, e1 (r + 1) (by omega)]; exact s.le r t hr ht
  · by_cases z : r = i
    · subst z; rw [e0, e1 r (by omega)]; exact (b2 t ht).1
    · by_cases z2 : r = i + 1
      · subst z2; rw [e0, e1 (i + 1 + 1) (by omega)]; exact (b2 t ht).2
      · rw [e1 r z2, e1 (r + 1) (by omega)]; exact s.lt r t hr ht
  · rw [e1 0 (by omega)]; exact s.fr t ht
  · refine ps_two (i := i) (fun r h1 h2 => ?_) ?_ hi
    · show rwt (w r) (S r) (S (r + 1)) j = rwt (w' r) (S' r) (S' (r + 1)) j
      rw [same r h1 h2, e1 r h2, e1 (r + 1) (by omega)]
    · show rwt (w i) (S i) (S (i + 1)) j + rwt (w (i + 1)) (S (i + 1)) (S (i + 1 + 1)) j ≤ rwt (w' i) (S' i) (S' (i + 1)) j + rwt (w' (i + 1)) (S' (i + 1)) (S' (i + 1 + 1)) j
      rw [e0, e1 i (by omega), e1 (i + 1 + 1) (by omega)]; exact b3
/-- a hall that is settled: nothing can be moved back -/
structure Settled (w : Nat → Nat → Int) (n m : Nat) : Prop where
  nn : ∀ r c, 0 ≤ w r c
  z : ∀ r c, m ≤ c → w r c = 0
  hw : ∀ i, i + 1 < n → ∀ x, ps (w (i + 1)) m - ps (w (i + 1)) x ≤ ps (w i) m - ps (w i) (x + 1)
section
variable {w : Nat → Nat → Int} {n m : Nat}
end
end Mv
set_option linter.all false
set_option autoImplicit false
/-! P0: stepping a machine. -/
namespace Zm
open PySem
@[simp] theorem fz_ints : ∀ ns : List Int, fzs (ns.map D.int) = ns.map D.int
  | [] => rfl
  | n :: ns => by simp [fz_ints ns]
@[simp] theorem noF_ints : ∀ ns : List Int, noFs (ns.map D.int) = true
  | [] => rfl
  | n :: ns => by simp [noF_ints ns]
@[simp] theorem plain_ints : ∀ ns : List Int, plains (ns.map D.int) = true
  | [] => rfl
  | n :: ns => by simp [plain_ints ns]
theorem szl : (1000000 : Nat) ≤ sizeLine := by decide
theorem sm_of {i : Int} (h : i.natAbs < 2 ^ 1900) : sm i = true := decide_eq_true h
end Zm
namespace Zm
open PySem
mutual
/-- only numbers, in lists and tuples -/
def itg : PyData → Bool
  | .int _ => true
  | .list xs => itgs xs
  | .tuple xs => itgs xs
  | _ => false
def itgs : List PyData → Bool
  | [] => true
  | x :: xs => itg x && itgs xs
end
mutual
theorem itg_lay : ∀ x : PyData, itg x = true → x.canLay0 = true
  | .int _, _ => by simp [PyData.canLay0]
  | .list xs, h => by simp only [itg] at h; simp only [PyData.canLay0]; exact itgs_lay xs h
  | .tuple xs, h => by simp only [itg] at h; simp only [PyData.canLay0]; exact itgs_lay xs h
  | .none, h => by simp [itg] at h
  | .bool _, h => by simp [itg] at h
  | .str _, h => by simp [itg] at h
  | .dict _, h => by simp [itg] at h
theorem itgs_lay : ∀ xs : List PyData, itgs xs = true → PyData.canLayAll0 xs = true
  | [], _ => by simp [PyData.canLayAll0]
  | x :: xs, h => by
    simp only [itgs, Bool.and_eq_true] at h
    simp only [PyData.canLayAll0, Bool.and_eq_true]
    exact ⟨itg_lay x h.1, itgs_lay xs h.2⟩
end
mutual
theorem eqv_itg : ∀ x y : PyData, itg x = true → itg y = true → PyData.eqv x y = true → x = y
  | .int i, .int j, _, _, e => by simp [PyData.eqv] at e; rw [e]
  | .list xs, .list ys, h, h', e => by
    simp only [itg] at h h'; simp only [PyData.eqv] at e
    rw [eqvs_itg xs ys h h' e]
  | .tuple xs, .tuple ys, h, h', e => by
    simp only [itg] at h h'; simp only [PyData.eqv] at e
    rw [eqvs_itg xs ys h h' e]
  | .int _, .list _, _, _, e => by simp [PyData.eqv] at e
  | .int _, .tuple _, _, _, e => by simp [PyData.eqv] at e
  | .list _, .int _, _, _, e => by simp [PyData.eqv] at e
  | .list _, .tuple _, _, _, e => by simp [PyData.eqv] at e
  | .tuple _, .int _, _, _, e => by simp [PyData.eqv] at e
  | .tuple _, .list _, _, _, e => by simp [PyData.eqv] at e
  | .none, _, h, _, _ => by simp [itg] at h
  | .bool _, _, h, _, _ => by simp [itg] at h
  | .str _, _, h, _, _ => by simp [itg] at h
  | .dict _, _, h, _, _ => by simp [itg] at h
  | _, .none, _, h, _ => by simp [itg] at h
  | _, .bool _, _, h, _ => by simp [itg] at h
  | _, .str _, _, h, _ => by simp [itg] at h
  | _, .dict _, _, h, _ => by simp [itg] at h
theorem eqvs_itg : ∀ xs ys : List PyData, itgs xs = true → itgs ys = true → PyData.eqvAll xs ys = true → xs = ys
  | [], [], _, _, _ => rfl
  | x :: xs, y :: ys, h, h', e => by
    simp only [itgs, Bool.and_eq_true] at h h'
    simp only [PyData.eqvAll, Bool.and_eq_true] at e
    rw [eqv_itg x y h.1 h'.1 e.1, eqvs_itg xs ys h.2 h'.2 e.2]
  | [], _ :: _, _, _, e => by simp [PyData.eqvAll] at e
  | _ :: _, [], _, _, e => by simp [PyData.eqvAll] at e
end
/-- data that may be compared -/
structure Cmp (d : D) (x : PyData) : Prop where
  p : pd d = some x
  g : itg x = true
  h : x.depth ≤ 64
theorem Cmp.sh {d : D} {x : PyData} (c : Cmp d x) : shapedD d = some x := by
  unfold shapedD
  rw [c.p]
  have : SeqAt.shaped x = true := Bool.and_eq_true_iff.mpr ⟨itg_lay x c.g, decide_eq_true c.h⟩
  simp only [this, if_true]
theorem eq_t {s : Sto} {d e : D} {x : PyData} (c : Cmp d x) (c' : Cmp e x) : gEq s [d, e] = some (.bl true) := by
  simp only [gEq, c.sh, c'.sh, SeqAt.eqv_refl x (itg_lay x c.g)]
theorem ne_f {s : Sto} {d e : D} {x : PyData} (c : Cmp d x) (c' : Cmp e x) : gNe s [d, e] = some (.bl false) := by
  simp only [gNe, c.sh, c'.sh, SeqAt.eqv_refl x (itg_lay x c.g), Bool.not_true]
theorem Cmp.int (i : Int) : Cmp (.int i) (.int i) := ⟨rfl, rfl, by simp [PyData.depth]⟩
theorem pds_map {α : Type} {f : α → D} {g : α → PyData} (h : ∀ x, pd (f x) = some (g x)) : ∀ xs : List α, pds (xs.map f) = some (xs.map g)
  | [] => rfl
  | x :: xs => by rw [List.map_cons, pds, h x, pds_map h xs]; rfl
theorem itgs_map {α : Type} {g : α → PyData} (h : ∀ x, itg (g x) = true) : ∀ xs : List α, itgs (xs.map g) = true
  | [] => rfl
  | x :: xs => by rw [List.map_cons, itgs, h x, itgs_map h xs]; rfl
theorem depth_map {α : Type} {g : α → PyData} {n : Nat} (h : ∀ x, (g x).depth ≤ n) : ∀ xs : List α, PyData.depthAll (xs.map g) ≤ n
  | [] => by simp [PyData.depthAll]
  | x :: xs => by rw [List.map_cons, PyData.depthAll]; have := h x; have := depth_map h xs; omega
theorem Cmp.ints (o : Bool) (ns : List Int) : Cmp (.lst o (ns.map D.int)) (.list (ns.map .int)) :=
  ⟨by rw [pd, pds_map (g := PyData.int) fun _ => rfl]; rfl, by rw [itg]; exact itgs_map (fun _ => rfl) ns, by rw [PyData.depth]; have := depth_map (g := PyData.int) (n := 1) (fun _ => by simp [PyData.depth]) ns; omega⟩
end Zm
namespace Zm
open PySem
theorem atI_nat {α : Type} {xs : List α} {k : Nat} : L2.atI xs (k : Int) = xs[k]? := by
  unfold L2.atI L2.ixN
  rw [if_pos (by omega)]
  by_cases h : k < xs.length
  · rw [if_pos (by omega)]; simp
  · rw [if_neg (by omega), List.getElem?_eq_none (by omega)]; rfl
theorem atI_zero {α : Type} {xs : List α} : L2.atI xs 0 = xs[0]? := atI_nat (k := 0)
theorem atI_last {α : Type} {xs : List α} : L2.atI xs (-1) = xs.getLast? := by
  unfold L2.atI L2.ixN
  rw [if_neg (by decide)]
  cases h : xs.length with
  | zero =>
    have := List.eq_nil_of_length_eq_zero h
    subst this; rfl
  | succ n =>
    rw [if_pos (by omega)]
    show xs[((-1 : Int) + ((n + 1 : Nat) : Int)).toNat]? = _
    rw [List.getLast?_eq_getElem?, h, show ((-1 : Int) + ((n + 1 : Nat) : Int)).toNat = n by omega]
    rfl
end Zm
namespace Zm
open PySem PySem.Spec PyProof.Rows L2
theorem cut_from {α : Type} (xs : List α) (k : Nat) : cutD xs (some (k : Int)) none = xs.drop k := by
  unfold cutD
  rw [HT.sIx_nat, HT.sIx_none, List.take_of_length_le (by simp)]
  by_cases h : k ≤ xs.length
  · rw [Nat.min_eq_left h]
  · rw [Nat.min_eq_right (by omega), List.drop_eq_nil_of_le (by omega), List.drop_eq_nil_of_le (by omega)]
theorem cut_to {α : Type} (xs : List α) (k : Nat) : cutD xs none (some (k : Int)) = xs.take k := by
  unfold cutD
  rw [HT.sIx_nat, HT.sIx_none, List.drop_zero, Nat.sub_zero]
  by_cases h : k ≤ xs.length
  · rw [Nat.min_eq_left h]
  · rw [Nat.min_eq_right (by omega), List.take_of_length_le (Nat.le_refl _), List.take_of_length_le (by omega)]
theorem zip2_map {α β : Type} (f : α → D) (g : β → D) : ∀ (xs : List α) (ys : List β), zip2 (xs.map f) (ys.map g) = (xs.zip ys).map fun p => .tup [f p.1, g p.2]
  | [], _ => by simp [zip2]
  | _ :: _, [] => by simp [zip2]
  | x :: xs, y :: ys => by
    have := zip2_map f g xs ys
    unfold zip2 at this ⊢
    simp [this]
end Zm
namespace Zm
open PySem
end Zm
set_option linter.all false
set_option autoImplicit false
set_option maxRecDepth 100000
/-! TL: programs over plain types, and the machines that keep them. -/
namespace Zm
open PySem
mutual
theorem fz_fz : ∀ d : D, fz (fz d) = fz d
  | .tup xs => by simp [fzs_fzs xs]
  | .lst _ xs => by simp [fzs_fzs xs]
  | .dic _ _ _ _ => rfl
  | .dil _ _ _ => rfl
  | .non => rfl | .bl _ => rfl | .int _ => rfl | .str _ => rfl | .box _ => rfl | .fn _ => rfl | .ty _ => rfl | .exc _ _ => rfl | .ro _ => rfl
theorem fzs_fzs : ∀ xs : List D, fzs (fzs xs) = fzs xs
  | [] => rfl
  | x :: xs => by simp [fz_fz x, fzs_fzs xs]
end
mutual
theorem plain_fz : ∀ d : D, plain d = true → fz d = d
  | .tup xs, h => by simp only [plain] at h; simp [plains_fz xs h]
  | .lst _ xs, h => by simp at h
  | .dic _ _ _ _, h => by simp at h
  | .dil _ _ _, h => by simp at h
  | .non, _ => rfl | .bl _, _ => rfl | .int _, _ => rfl | .str _, _ => rfl | .box _, _ => rfl | .fn _, _ => rfl | .ty _, _ => rfl | .exc _ _, _ => rfl | .ro _, _ => rfl
theorem plains_fz : ∀ xs : List D, plains xs = true → fzs xs = xs
  | [], _ => rfl
  | x :: xs, h => by simp only [plains, Bool.and_eq_true] at h; simp [plain_fz x h.1, plains_fz xs h.2]
end
mutual
theorem plain_noF : ∀ d : D, plain d = true → noF d = true
  | .tup xs, h => by simp only [plain] at h; simp [plains_noF xs h]
  | .lst _ xs, h => by simp at h
  | .dic _ _ _ _, h => by simp at h
  | .dil _ _ _, h => by simp at h
  | .non, _ => rfl | .bl _, _ => rfl | .int _, _ => rfl | .str _, _ => rfl | .box _, _ => rfl | .fn _, _ => rfl | .ty _, _ => rfl | .exc _ _, _ => rfl | .ro _, _ => rfl
theorem plains_noF : ∀ xs : List D, plains xs = true → noFs xs = true
  | [], _ => rfl
  | x :: xs, h => by simp only [plains, Bool.and_eq_true] at h; simp [plain_noF x h.1, plains_noF xs h.2]
end
mutual
theorem fz_plain : ∀ d : D, plain (fz d) = true → plain d = true
  | .tup xs, h => by simp only [fz, plain] at h; simp [fzs_plains xs h]
  | .lst _ xs, h => by simp at h
  | .dic _ _ _ _, h => by simp at h
  | .dil _ _ _, h => by simp at h
  | .non, _ => rfl | .bl _, _ => rfl | .int _, _ => rfl | .str _, _ => rfl | .box _, _ => rfl | .fn _, _ => rfl | .ty _, _ => rfl | .exc _ _, _ => rfl | .ro _, _ => rfl
theorem fzs_plains : ∀ xs : List D, plains (fzs xs) = true → plains xs = true
  | [], _ => rfl
  | x :: xs, h => by simp only [fzs, plains, Bool.and_eq_true] at h; simp [fz_plain x h.1, fzs_plains xs h.2]
end
mutual
theorem pd_fz : ∀ d : D, pd (fz d) = pd d
  | .tup xs => by simp [fz, pd, pds_fz xs]
  | .lst _ xs => by simp [fz, pd, pds_fz xs]
  | .dic _ _ _ _ => rfl
  | .dil _ _ _ => rfl
  | .non => rfl | .bl _ => rfl | .int _ => rfl | .str _ => rfl | .box _ => rfl | .fn _ => rfl | .ty _ => rfl | .exc _ _ => rfl | .ro _ => rfl
theorem pds_fz : ∀ xs : List D, pds (fzs xs) = pds xs
  | [] => rfl
  | x :: xs => by simp [fzs, pds, pd_fz x, pds_fz xs]
end
/-! ### what stands for what -/
abbrev G (α : Type) := Sto → R α
def pr {α : Type} (x : α) : G α := fun s => .ok x s
def bd {α β : Type} (t : G α) (k : α → G β) : G β := fun s => (t s).bind fun a s' => k a s'
@[simp] theorem pr_ap {α : Type} (x : α) (s : Sto) : pr x s = .ok x s := rfl
theorem bd_ap {α β : Type} (t : G α) (k : α → G β) (s : Sto) : bd t k s = (t s).bind fun a s' => k a s' := rfl
@[simp] theorem bd_ok {α β : Type} {t : G α} {k : α → G β} {s s' : Sto} {a : α} (h : t s = .ok a s') : bd t k s = k a s' := by rw [bd_ap, h]; rfl
theorem bd_ex {α β : Type} {t : G α} {k : α → G β} {s s' : Sto} {x : Xc} (h : t s = .ex x s') : bd t k s = .ex x s' := by rw [bd_ap, h]; rfl
structure Ec (α : Type) where
  f : α → D
  h : ∀ x, fz (f x) = f x
inductive Kd where
  | any | top | own | fro | pl
/-- d stands for x: .top an owned list, .own nothing frozen within, .fro all frozen, .pl no list at all -/
def Rp {α : Type} (k : Kd) (e : Ec α) (x : α) (d : D) : Prop := fz d = e.f x ∧ match k with
  | .any => True
  | .top => ∃ ds, d = .lst true ds
  | .own => noF d = true
  | .fro => d = e.f x
  | .pl => plain d = true
class Pn {α : Type} (e : Ec α) : Prop where
  p : ∀ x, plain (e.f x) = true
section
variable {α β γ : Type} {k k' : Kd} {e : Ec α} {x : α} {d : D}
theorem Rp.any (h : Rp k e x d) : Rp .any e x d := ⟨h.1, trivial⟩
theorem Rp.fz (h : Rp k e x d) : Rp .fro e x (fz d) := ⟨by rw [fz_fz]; exact h.1, h.1⟩
theorem Rp.plain [Pn e] (h : Rp k e x d) : Rp .pl e x d := ⟨h.1, fz_plain _ (by rw [h.1]; exact Pn.p x)⟩
theorem Rp.plE (h : Rp .pl e x d) : d = e.f x := by rw [← h.1]; exact (plain_fz _ h.2).symm
theorem Rp.plO (h : Rp .pl e x d) : Rp .own e x d := ⟨h.1, plain_noF _ h.2⟩
theorem Rp.self (e : Ec α) (x : α) : Rp .fro e x (e.f x) := ⟨e.h x, rfl⟩
theorem Rp.selfP (e : Ec α) [Pn e] (x : α) : Rp .pl e x (e.f x) := (Rp.self e x).plain
end
def eI : Ec Int := ⟨.int, fun _ => rfl⟩
def eB : Ec Bool := ⟨.bl, fun _ => rfl⟩
def eN : Ec Unit := ⟨fun _ => .non, fun _ => rfl⟩
def eS : Ec Str := ⟨.str, fun _ => rfl⟩
def eBx : Ec Nat := ⟨.box, fun _ => rfl⟩
def eRo : Ec (List Int) := ⟨.ro, fun _ => rfl⟩
def eTy : Ec String := ⟨.ty, fun _ => rfl⟩
def eX : Ec D := ⟨fz, fz_fz⟩
theorem fzs_ec {α : Type} (e : Ec α) (xs : List α) : fzs (xs.map e.f) = xs.map e.f := by rw [fzs_eq, List.map_map]; exact List.map_congr_left fun x _ => e.h x
def eL {α : Type} (e : Ec α) : Ec (List α) := ⟨fun xs => .lst false (xs.map e.f), fun xs => by simp [fzs_ec]⟩
def eT {α : Type} (e : Ec α) : Ec (List α) := ⟨fun xs => .tup (xs.map e.f), fun xs => by simp [fzs_ec]⟩
def eP {α β : Type} (a : Ec α) (b : Ec β) : Ec (α × β) := ⟨fun p => .tup [a.f p.1, b.f p.2], fun p => by simp [a.h, b.h]⟩
def eP3 {α β γ : Type} (a : Ec α) (b : Ec β) (c : Ec γ) : Ec (α × β × γ) := ⟨fun p => .tup [a.f p.1, b.f p.2.1, c.f p.2.2], fun p => by simp [a.h, b.h, c.h]⟩
def eO {α : Type} (e : Ec α) : Ec (Option α) := ⟨fun o => match o with
  | none => .non
  | some x => e.f x, fun o => by cases o <;> simp [e.h]⟩
instance : Pn eI := ⟨fun _ => rfl⟩
instance : Pn eB := ⟨fun _ => rfl⟩
instance : Pn eN := ⟨fun _ => rfl⟩
instance : Pn eS := ⟨fun _ => rfl⟩
instance : Pn eBx := ⟨fun _ => rfl⟩
instance : Pn eRo := ⟨fun _ => rfl⟩
instance : Pn eTy := ⟨fun _ => rfl⟩
instance {α : Type} (e : Ec α) [Pn e] : Pn (eT e) := ⟨fun xs => by
  show plains (xs.map e.f) = true
  rw [plains_iff]; intro d hd; obtain ⟨x, _, rfl⟩ := List.mem_map.mp hd; exact Pn.p x⟩
instance {α β : Type} (a : Ec α) (b : Ec β) [Pn a] [Pn b] : Pn (eP a b) := ⟨fun p => by show plains [a.f p.1, b.f p.2] = true; simp [Pn.p]⟩
instance {α β γ : Type} (a : Ec α) (b : Ec β) (c : Ec γ) [Pn a] [Pn b] [Pn c] : Pn (eP3 a b c) := ⟨fun p => by show plains [a.f p.1, b.f p.2.1, c.f p.2.2] = true; simp [Pn.p]⟩
instance {α : Type} (e : Ec α) [Pn e] : Pn (eO e) := ⟨fun o => by cases o <;> simp [eO, Pn.p]⟩
/-! ### what such a tree looks like -/
section
variable {α β : Type} {k : Kd} {d : D}
theorem Rp.int {x : Int} (h : Rp k eI x d) : d = .int x := by have := h.1; cases d <;> simp_all [eI]
theorem Rp.bl {x : Bool} (h : Rp k eB x d) : d = .bl x := by have := h.1; cases d <;> simp_all [eB]
theorem Rp.str {x : Str} (h : Rp k eS x d) : d = .str x := by have := h.1; cases d <;> simp_all [eS]
theorem Rp.non {x : Unit} (h : Rp k eN x d) : d = .non := by have := h.1; cases d <;> simp_all [eN]
theorem Rp.box {x : Nat} (h : Rp k eBx x d) : d = .box x := by have := h.1; cases d <;> simp_all [eBx]
theorem Rp.ro {x : List Int} (h : Rp k eRo x d) : d = .ro x := by have := h.1; cases d <;> simp_all [eRo]
theorem Rp.ty {x : String} (h : Rp k eTy x d) : d = .ty x := by have := h.1; cases d <;> simp_all [eTy]
theorem Rp.lst {e : Ec α} {xs : List α} (h : Rp k (eL e) xs d) : ∃ o ds, d = .lst o ds ∧ fzs ds = xs.map e.f := by
  have := h.1
  cases d with
  | lst o ds => exact ⟨o, ds, rfl, by simpa [eL] using this⟩
  | _ => simp_all [eL]
theorem Rp.tup {e : Ec α} {xs : List α} (h : Rp k (eT e) xs d) : ∃ ds, d = .tup ds ∧ fzs ds = xs.map e.f := by
  have := h.1
  cases d with
  | tup ds => exact ⟨ds, rfl, by simpa [eT] using this⟩
  | _ => simp_all [eT]
theorem Rp.lstT {e : Ec α} {xs : List α} (h : Rp .top (eL e) xs d) : ∃ ds, d = .lst true ds ∧ fzs ds = xs.map e.f := by
  obtain ⟨ds, rfl⟩ := h.2
  exact ⟨ds, rfl, by have := h.1; simpa [eL] using this⟩
theorem Rp.lstO {e : Ec α} {xs : List α} (h : Rp .own (eL e) xs d) : ∃ ds, d = .lst true ds ∧ fzs ds = xs.map e.f ∧ noFs ds = true := by
  obtain ⟨o, ds, rfl, q⟩ := h.lst
  have := h.2
  simp only [noF, Bool.and_eq_true] at this
  obtain ⟨rfl, h2⟩ := this
  exact ⟨ds, rfl, q, h2⟩
theorem Rp.ownT {e : Ec α} {xs : List α} (h : Rp .own (eL e) xs d) : Rp .top (eL e) xs d := by
  obtain ⟨ds, rfl, _, _⟩ := h.lstO
  exact ⟨h.1, ds, rfl⟩
theorem Rp.pair {a : Ec α} {b : Ec β} {p : α × β} (h : Rp k (eP a b) p d) : ∃ x y, d = .tup [x, y] ∧ Zm.fz x = a.f p.1 ∧ Zm.fz y = b.f p.2 := by
  have := h.1
  cases d with
  | tup ds =>
    simp only [eP, fz, D.tup.injEq] at this
    match ds, this with
    | [x, y], this => simp at this; exact ⟨x, y, rfl, this⟩
    | [], this => simp at this
    | [_], this => simp at this
    | _ :: _ :: _ :: _, this => simp at this
  | _ => simp_all [eP]
theorem rp_top {e : Ec α} {xs : List α} {ds : List D} (h : fzs ds = xs.map e.f) : Rp .top (eL e) xs (.lst true ds) := ⟨by simp [eL, h], ds, rfl⟩
theorem rp_own {e : Ec α} {xs : List α} {ds : List D} (h : fzs ds = xs.map e.f) (hn : noFs ds = true) : Rp .own (eL e) xs (.lst true ds) := ⟨by simp [eL, h], by simp [hn]⟩
theorem rp_tup {e : Ec α} {xs : List α} {ds : List D} (h : fzs ds = xs.map e.f) : Rp .any (eT e) xs (.tup ds) := ⟨by simp [eT, h], trivial⟩
theorem noFs_pn {e : Ec α} [Pn e] {xs : List α} {ds : List D} (h : fzs ds = xs.map e.f) : noFs ds = true := plains_noF _ (fzs_plains _ (by
  rw [h, plains_iff]; intro d hd; obtain ⟨x, _, rfl⟩ := List.mem_map.mp hd; exact Pn.p x))
theorem rp_len {e : Ec α} {xs : List α} {ds : List D} (h : fzs ds = xs.map e.f) : ds.length = xs.length := by
  have := congrArg List.length h
  simpa [fzs_eq] using this
end
/-! ### patterns of slots -/
inductive Pt : Type 1 where
  | no
  | vr {α : Type} (k : Kd) (e : Ec α) (x : α)
def PtM : Pt → Option D → Prop
  | .no, _ => True
  | .vr k e x, o => ∃ d, o = some d ∧ Rp k e x d
def Mt : List Pt → Env → Prop
  | [], [] => True
  | p :: π, o :: σ => PtM p o ∧ Mt π σ
  | _, _ => False
def Kd.dg : Kd → Kd
  | .pl => .pl
  | _ => .any
def Kd.fr : Kd → Kd
  | .pl => .pl
  | _ => .fro
def Pt.dg : Pt → Pt
  | .no => .no
  | .vr k e x => .vr k.dg e x
def Pt.fr : Pt → Pt
  | .no => .no
  | .vr k e x => .vr k.fr e x
/-- the mask's slots alone; its slots perhaps frozen -/
def restrP : List Bool → List Pt → List Pt
  | [], π => π.map fun _ => .no
  | _, [] => []
  | b :: bs, p :: π => (if b = true then p else .no) :: restrP bs π
def frzP : List Bool → List Pt → List Pt
  | [], π => π
  | _, [] => []
  | b :: bs, p :: π => (if b = true then p.dg else p) :: frzP bs π
def wipeP (π : List Pt) : List Nat → List Pt
  | [] => π
  | v :: vs => (wipeP π vs).set v .no
def fzP (π : List Pt) : List Pt := π.map Pt.fr
section
variable {α : Type} {k : Kd} {e : Ec α} {x : α} {π π' : List Pt} {σ : Env} {d : D}
theorem Mt.len : ∀ {π : List Pt} {σ : Env}, Mt π σ → σ.length = π.length
  | [], [], _ => rfl
  | _ :: _, _ :: _, h => congrArg (· + 1) (Mt.len h.2)
  | [], _ :: _, h => h.elim
  | _ :: _, [], h => h.elim
theorem Mt.get : ∀ {π : List Pt} {σ : Env} {i : Nat}, Mt π σ → π[i]? = some (.vr k e x) → ∃ d, σ[i]? = some (some d) ∧ Rp k e x d
  | [], [], i, _, h => by simp at h
  | p :: π, o :: σ, 0, m, h => by
    simp at h; subst h
    obtain ⟨d, rfl, r⟩ := m.1
    exact ⟨d, rfl, r⟩
  | p :: π, o :: σ, i + 1, m, h => by
    have := Mt.get (i := i) m.2 (by simpa using h)
    simpa using this
  | [], _ :: _, _, h, _ => h.elim
  | _ :: _, [], _, h, _ => h.elim
theorem Mt.set : ∀ {π : List Pt} {σ : Env} (i : Nat) {p : Pt} {o : Option D}, Mt π σ → PtM p o → Mt (π.set i p) (σ.set i o)
  | [], [], i, _, _, _, _ => trivial
  | _ :: _, _ :: _, 0, _, _, m, h => ⟨h, m.2⟩
  | _ :: _, _ :: _, i + 1, _, _, m, h => ⟨m.1, Mt.set i m.2 h⟩
  | [], _ :: _, _, _, _, h, _ => h.elim
  | _ :: _, [], _, _, _, h, _ => h.elim
theorem ptm_dg : ∀ {p : Pt} {o : Option D}, PtM p o → PtM p.dg o
  | .no, _, _ => trivial
  | .vr .pl _ _, _, h => h
  | .vr .any _ _, _, h => h
  | .vr .top _ _, _, ⟨d, e, r⟩ => ⟨d, e, r.any⟩
  | .vr .own _ _, _, ⟨d, e, r⟩ => ⟨d, e, r.any⟩
  | .vr .fro _ _, _, ⟨d, e, r⟩ => ⟨d, e, r.any⟩
theorem rp_fr {α : Type} {e : Ec α} {x : α} {d : D} : ∀ {k : Kd}, Rp k e x d → Rp k.fr e x (fz d)
  | .pl, h => by rw [plain_fz _ h.2]; exact h
  | .any, h => h.fz
  | .top, h => h.fz
  | .own, h => h.fz
  | .fro, h => h.fz
theorem rp_dgfz {α : Type} {e : Ec α} {x : α} {d : D} : ∀ {k : Kd}, Rp k e x d → Rp k.dg e x (fz d)
  | .pl, h => by rw [plain_fz _ h.2]; exact h
  | .any, h => h.fz.any
  | .top, h => h.fz.any
  | .own, h => h.fz.any
  | .fro, h => h.fz.any
theorem ptm_fz : ∀ {p : Pt} {o : Option D}, PtM p o → PtM p.fr (o.map fz)
  | .no, _, _ => trivial
  | .vr k _ _, _, ⟨d, rfl, r⟩ => ⟨fz d, rfl, rp_fr r⟩
theorem ptm_dgfz : ∀ {p : Pt} {o : Option D}, PtM p o → PtM p.dg (o.map fz)
  | .no, _, _ => trivial
  | .vr k _ _, _, ⟨d, rfl, r⟩ => ⟨fz d, rfl, rp_dgfz r⟩
theorem Mt.nos : ∀ {π : List Pt} {σ : Env}, Mt π σ → Mt (π.map fun _ => .no) (σ.map fun _ => none)
  | [], [], _ => trivial
  | _ :: _, _ :: _, h => ⟨trivial, Mt.nos h.2⟩
  | [], _ :: _, h => h.elim
  | _ :: _, [], h => h.elim
theorem Mt.nos' : ∀ {π : List Pt} {σ : Env}, Mt π σ → Mt (π.map fun _ => .no) σ
  | [], [], _ => trivial
  | _ :: _, _ :: _, h => ⟨trivial, Mt.nos' h.2⟩
  | [], _ :: _, h => h.elim
  | _ :: _, [], h => h.elim
/-- under the mask: in the slots as they are, and in the mask's alone -/
theorem Mt.restr : ∀ {bs : List Bool} {π : List Pt} {σ : Env}, Mt π σ → Mt (restrP bs π) (restr bs σ)
  | [], _, _, h => h.nos
  | b :: bs, [], [], _ => trivial
  | true :: bs, p :: π, o :: σ, h => ⟨h.1, Mt.restr h.2⟩
  | false :: bs, p :: π, o :: σ, h => ⟨trivial, Mt.restr h.2⟩
  | _ :: _, [], _ :: _, h => h.elim
  | _ :: _, _ :: _, [], h => h.elim
theorem Mt.restr' : ∀ {bs : List Bool} {π : List Pt} {σ : Env}, Mt π σ → Mt (restrP bs π) σ
  | [], _, _, h => h.nos'
  | b :: bs, [], [], _ => trivial
  | true :: bs, p :: π, o :: σ, h => ⟨h.1, Mt.restr' h.2⟩
  | false :: bs, p :: π, o :: σ, h => ⟨trivial, Mt.restr' h.2⟩
  | _ :: _, [], _ :: _, h => h.elim
  | _ :: _, _ :: _, [], h => h.elim
theorem Mt.frz : ∀ {bs : List Bool} {π : List Pt} {σ : Env}, Mt π σ → Mt (frzP bs π) (frzE bs σ)
  | [], _, _, h => h
  | b :: bs, [], [], _ => trivial
  | true :: bs, p :: π, o :: σ, h => ⟨ptm_dgfz h.1, Mt.frz h.2⟩
  | false :: bs, p :: π, o :: σ, h => ⟨h.1, Mt.frz h.2⟩
  | _ :: _, [], _ :: _, h => h.elim
  | _ :: _, _ :: _, [], h => h.elim
theorem Mt.frz' : ∀ {bs : List Bool} {π : List Pt} {σ : Env}, Mt π σ → Mt (frzP bs π) σ
  | [], _, _, h => h
  | b :: bs, [], [], _ => trivial
  | true :: bs, p :: π, o :: σ, h => ⟨ptm_dg h.1, Mt.frz' h.2⟩
  | false :: bs, p :: π, o :: σ, h => ⟨h.1, Mt.frz' h.2⟩
  | _ :: _, [], _ :: _, h => h.elim
  | _ :: _, _ :: _, [], h => h.elim
theorem Mt.fzE : ∀ {π : List Pt} {σ : Env}, Mt π σ → Mt (fzP π) (fzE σ)
  | [], [], _ => trivial
  | _ :: _, _ :: _, h => ⟨ptm_fz h.1, Mt.fzE h.2⟩
  | [], _ :: _, h => h.elim
  | _ :: _, [], h => h.elim
theorem Mt.wipe (h : Mt π σ) : ∀ vs : List Nat, Mt (wipeP π vs) (wipeE σ vs)
  | [] => h
  | v :: vs => (Mt.wipe h vs).set v (p := .no) trivial
end
/-- of less -/
def Wk (π π' : List Pt) : Prop := ∀ σ, Mt π σ → Mt π' σ
section
variable {α : Type} {k : Kd} {e : Ec α} {x : α} {p : Pt} {π π' : List Pt}
theorem wk_nil : Wk [] [] := fun _ h => h
theorem wk_no (h : Wk π π') : Wk (p :: π) (.no :: π') := fun σ m => match σ, m with
  | _ :: σ, m => ⟨trivial, h σ m.2⟩
  | [], m => m.elim
theorem wk_eq (h : Wk π π') : Wk (p :: π) (p :: π') := fun σ m => match σ, m with
  | _ :: σ, m => ⟨m.1, h σ m.2⟩
  | [], m => m.elim
theorem wk_top {e : Ec α} {x : List α} (h : Wk π π') : Wk (.vr .own (eL e) x :: π) (.vr .top (eL e) x :: π') := fun σ m => match σ, m with
  | _ :: σ, m => ⟨let ⟨d, q, r⟩ := m.1; ⟨d, q, r.ownT⟩, h σ m.2⟩
  | [], m => m.elim
end
/-! ### expressions -/
def Rf {α : Type} (k : Kd) (e : Ec α) : R α → R D → Prop
  | .ok x s, r => ∃ d, r = .ok d s ∧ Rp k e x d
  | .ex x s, r => r = .ex x s
  | .bad, _ => True
def TE {α : Type} (π : List Pt) (m : M) (k : Kd) (e : Ec α) (t : G α) : Prop := ∀ σ s, Mt π σ → Rf k e (t s) (m σ s)
def TP {α : Type} (π : List Pt) (m : M) (k : Kd) (e : Ec α) (x : α) : Prop := ∀ σ s, Mt π σ → ∃ d, m σ s = .ok d s ∧ Rp k e x d
def RfB : R Bool → R Bool → Prop
  | .bad, _ => True
  | a, b => b = a
def TC (π : List Pt) (t : T) (g : G Bool) : Prop := ∀ σ s, Mt π σ → RfB (g s) (t σ s)
def TCp (π : List Pt) (t : T) (b : Bool) : Prop := ∀ σ s, Mt π σ → t σ s = .ok b s
def TA {α : Type} (π : List Pt) (ms : List M) (K : List D → Sto → R D) (k : Kd) (e : Ec α) (t : G α) : Prop := ∀ σ s, Mt π σ → Rf k e (t s) ((mArgs ms σ s).bind K)
section
variable {α β γ : Type} {π : List Pt} {m ma mb mc : M} {ms : List M} {k ka kb kc : Kd} {e : Ec α} {ea : Ec β} {eb : Ec γ} {x : α} {t : G α} {K : List D → Sto → R D} {c : T}
theorem Rf.bind {tb : G β} {r : R D} {f : β → G α} {h : D → Sto → R D} {s : Sto} (a : Rf ka ea (tb s) r) (b : ∀ y d s, Rp ka ea y d → Rf k e (f y s) (h d s)) : Rf k e (bd tb f s) (r.bind h) := by
  unfold bd
  cases q : tb s with
  | ok y s1 =>
    rw [q] at a
    obtain ⟨d, rfl, r⟩ := a
    exact b y d s1 r
  | ex z s1 => rw [q] at a; cases a; exact rfl
  | bad => trivial
theorem TP.te (h : TP π m k e x) : TE π m k e (pr x) := fun σ s M => h σ s M
theorem te_var (i : Nat) {k : Kd} {π : List Pt} {e : Ec α} {x : α} (h : π[i]? = some (.vr k e x) := by rfl) : TP π (mVar i) .fro e x := fun σ s M => by
  obtain ⟨d, q, r⟩ := M.get h
  exact ⟨fz d, by simp [q], r.fz⟩
theorem te_varP (i : Nat) {π : List Pt} {e : Ec α} {x : α} (h : π[i]? = some (.vr .pl e x) := by rfl) : TP π (mVar i) .pl e x := fun σ s M => by
  obtain ⟨d, q, r⟩ := M.get h
  exact ⟨fz d, by simp [q], rp_fr r⟩
theorem te_int {i : Int} : TP π (mC (.int i)) .pl eI i := fun σ s M => ⟨_, rfl, rfl, rfl⟩
theorem te_bl {i : Bool} : TP π (mC (.bl i)) .pl eB i := fun σ s M => ⟨_, rfl, rfl, rfl⟩
theorem te_non : TP π (mC .non) .pl eN () := fun σ s M => ⟨_, rfl, rfl, rfl⟩
theorem te_none : TP π (mC .non) .fro (eO e) none := fun σ s M => ⟨_, rfl, rfl, rfl⟩
theorem TP.any (h : TP π m k e x) : TP π m .any e x := fun σ s M => let ⟨d, q, r⟩ := h σ s M; ⟨d, q, r.any⟩
theorem TP.plain [Pn e] (h : TP π m k e x) : TP π m .pl e x := fun σ s M => let ⟨d, q, r⟩ := h σ s M; ⟨d, q, r.plain⟩
theorem TP.own (h : TP π m .pl e x) : TP π m .own e x := fun σ s M => let ⟨d, q, r⟩ := h σ s M; ⟨d, q, r.plO⟩
theorem Rf.mono {k' : Kd} {a : R α} {r : R D} (h : Rf k e a r) (q : ∀ x d, Rp k e x d → Rp k' e x d) : Rf k' e a r := by
  cases a with
  | ok x s => obtain ⟨d, h1, h2⟩ := h; exact ⟨d, h1, q _ _ h2⟩
  | ex x s => exact h
  | bad => trivial
theorem TE.any (h : TE π m k e t) : TE π m .any e t := fun σ s M => (h σ s M).mono fun _ _ r => r.any
theorem TE.plain [Pn e] (h : TE π m k e t) : TE π m .pl e t := fun σ s M => (h σ s M).mono fun _ _ r => r.plain
theorem TE.own (h : TE π m .pl e t) : TE π m .own e t := fun σ s M => (h σ s M).mono fun _ _ r => r.plO
theorem TE.top {e : Ec β} {t : G (List β)} (h : TE π m .own (eL e) t) : TE π m .top (eL e) t := fun σ s M => (h σ s M).mono fun _ _ r => r.ownT
/-- something that may be none -/
theorem rp_some {d : D} (h : Rp k e x d) : Rp .any (eO e) (some x) d := ⟨h.1, trivial⟩
theorem TP.some (h : TP π m k e x) : TP π m .any (eO e) (some x) := fun σ s M => let ⟨d, q, r⟩ := h σ s M; ⟨d, q, rp_some r⟩
theorem TE.some (h : TE π m k e t) : TE π m .any (eO e) (bd t fun x => pr (some x)) := fun σ s M => by
  have := h σ s M
  unfold bd
  cases q : t s with
  | ok x s1 => rw [q] at this; obtain ⟨d, h1, h2⟩ := this; exact ⟨d, h1, rp_some h2⟩
  | ex x s1 => rw [q] at this; exact this
  | bad => trivial
/-! ### arguments -/
theorem ta_nil (h : ∀ s, Rf k e (t s) (K [] s)) : TA π [] K k e t := fun σ s M => h s
theorem ta_P {y : β} (h : TP π m ka ea y) (q : ∀ d, Rp ka ea y d → TA π ms (fun ds => K (d :: ds)) k e t) : TA π (m :: ms) K k e t := fun σ s M => by
  obtain ⟨d, h1, h2⟩ := h σ s M
  have := q d h2 σ s M
  simp only [mArgs, h1, R.bind_ok]
  cases z : mArgs ms σ s with
  | ok ds s1 => rw [z] at this; exact this
  | ex x s1 => rw [z] at this; exact this
  | bad => rw [z] at this; exact this
theorem ta_E {tb : G β} {f : β → G α} (h : TE π m ka ea tb) (q : ∀ y d, Rp ka ea y d → TA π ms (fun ds => K (d :: ds)) k e (f y)) : TA π (m :: ms) K k e (bd tb f) := fun σ s M => by
  have h := h σ s M
  unfold bd
  cases z : tb s with
  | ok y s1 =>
    rw [z] at h
    obtain ⟨d, h1, h2⟩ := h
    have := q y d h2 σ s1 M
    simp only [mArgs, h1, R.bind_ok]
    show Rf k e (f y s1) _
    cases z : mArgs ms σ s1 with
    | ok ds s1 => rw [z] at this; exact this
    | ex x s1 => rw [z] at this; exact this
    | bad => rw [z] at this; exact this
  | ex x s1 =>
    rw [z] at h
    have h : m σ s = .ex x s1 := h
    simp only [mArgs, h, R.bind_ex]; exact rfl
  | bad => trivial
theorem te_op {g : Sto → List D → Option D} (h : TA π ms (fun ds s => R.of (g s ds) s) k e t) : TE π (mOp g ms) k e t := fun σ s M => h σ s M
theorem te_call {f : Fn} (h : TA π ms f k e t) : TE π (mCall f ms) k e t := fun σ s M => h σ s M
/-- pure ones: by what the machine's operation gives -/
def OkP {α : Type} (g : Sto → List D → Option D) (ds : List D) (k : Kd) (e : Ec α) (x : α) : Prop := ∀ s, ∃ d, g s ds = some d ∧ Rp k e x d
theorem ok_p {g : Sto → List D → Option D} {ds : List D} (h : OkP g ds k e x) : ∀ s, Rf k e (pr x s) (R.of (g s ds) s) := fun s => by
  obtain ⟨d, e1, r⟩ := h s
  exact ⟨d, by rw [e1]; rfl, r⟩
end
end Zm
set_option linter.all false
set_option autoImplicit false
set_option maxRecDepth 100000
/-! TL2: tests, what is walked, lists made of lists, statements, functions. -/
namespace Zm
open PySem
/-! ### tests and what hangs on them -/
def orG (a b : G Bool) : G Bool := bd a fun z => if z = true then pr true else b
def notG (a : G Bool) : G Bool := bd a fun z => pr (!z)
section
variable {α β γ : Type} {π : List Pt} {m ma mb mc : M} {ms : List M} {k ka kb kc : Kd} {e : Ec α} {ea : Ec β} {eb : Ec γ} {x : α} {t ta tb : G α} {b b' : Bool} {c c' : T} {g g' : G Bool}
theorem RfB.bind {tb : G Bool} {r : R Bool} {f : Bool → G Bool} {h : Bool → Sto → R Bool} {s : Sto} (a : RfB (tb s) r) (b : ∀ y s, RfB (f y s) (h y s)) : RfB (bd tb f s) (r.bind h) := by
  unfold bd
  cases q : tb s with
  | ok y s1 => rw [q] at a; cases a; exact b y s1
  | ex z s1 => rw [q] at a; cases a; exact rfl
  | bad => trivial
theorem TCp.tc (h : TCp π c b) : TC π c (pr b) := fun σ s M => by rw [h σ s M]; exact rfl
theorem tc_V (h : TE π m k eB g) : TC π (tV m) g := fun σ s M => by
  have := h σ s M
  unfold tV
  cases q : g s with
  | ok y s1 => rw [q] at this; obtain ⟨d, e1, r⟩ := this; rw [e1, r.bl]; exact rfl
  | ex z s1 => rw [q] at this; have this : m σ s = _ := this; rw [this]; exact rfl
  | bad => trivial
theorem tcp_V (h : TP π m k eB b) : TCp π (tV m) b := fun σ s M => by
  obtain ⟨d, e1, r⟩ := h σ s M
  simp [e1, r.bl]
theorem tc_or (h : TC π c g) (h' : TC π c' g') : TC π (tOr c c') (orG g g') := fun σ s M => (h σ s M).bind fun y s => by
  cases y
  · exact h' σ s M
  · exact rfl
theorem tc_not (h : TC π c g) : TC π (tNot c) (notG g) := fun σ s M => (h σ s M).bind fun y s => rfl
theorem tp_if {y : α} (hc : TCp π c b) (h1 : TP π ma k e x) (h2 : TP π mb k e y) : TP π (mIfE c ma mb) k e (if b = true then x else y) := fun σ s M => by
  simp only [mIfE, hc σ s M, R.bind_ok]
  cases b
  · exact h2 σ s M
  · exact h1 σ s M
end
/-! ### what is walked -/
def RfS {α : Type} (e : Ec α) : R (List α) → R (List D) → Prop
  | .ok xs s, r => r = .ok (xs.map e.f) s
  | .ex x s, r => r = .ex x s
  | .bad, _ => True
def TI {α : Type} (π : List Pt) (src : Src) (e : Ec α) (t : G (List α)) : Prop := ∀ σ s, Mt π σ → RfS e (t s) (src σ s)
def TIp {α : Type} (π : List Pt) (src : Src) (e : Ec α) (xs : List α) : Prop := ∀ σ s, Mt π σ → src σ s = .ok (xs.map e.f) s
def irg (n : Nat) : List Int := (List.range n).map fun (i : Nat) => (i : Int)
def irg2 (a : Int) (n : Nat) : List Int := (List.range n).map fun (i : Nat) => a + (i : Int)
def irgD (a : Int) (n : Nat) : List Int := (List.range n).map fun (i : Nat) => a - (i : Int)
@[irreducible] def rangeT (j : Int) : G (List Int) := fun s => if big j = true then .ok (irg j.toNat) s else .bad
@[irreducible] def rangeT2 (i j : Int) : G (List Int) := fun s => if big i = true ∧ big j = true then .ok (irg2 i (j - i).toNat) s else .bad
@[irreducible] def rangeT3 (i j : Int) : G (List Int) := fun s => if big i = true ∧ big j = true then .ok (irgD i (i - j).toNat) s else .bad
def zipT3 {α β γ : Type} : List α → List β → List γ → List (α × β × γ)
  | x :: xs, y :: ys, z :: zs => (x, y, z) :: zipT3 xs ys zs
  | _, _, _ => []
def enumT {α : Type} (n : Nat) : List α → List (Int × α)
  | [] => []
  | x :: xs => ((n : Int), x) :: enumT (n + 1) xs
section
variable {α β γ : Type} {π : List Pt} {m ma mb mc : M} {k ka kb kc : Kd} {e : Ec α} {ea : Ec β} {eb : Ec γ}
theorem items_lst {xs : List α} {d : D} (h : Rp k (eL e) xs d) : itemsOf d = some (xs.map e.f) := by
  obtain ⟨o, ds, rfl, q⟩ := h.lst
  exact congrArg some q
theorem items_tup {xs : List α} {d : D} (h : Rp k (eT e) xs d) : itemsOf d = some (xs.map e.f) := by
  obtain ⟨ds, rfl, q⟩ := h.tup
  exact congrArg some q
/-- what is gone through, of whatever kind -/
def TIt {α : Type} (π : List Pt) (m : M) (e : Ec α) (xs : List α) : Prop := ∀ σ s, Mt π σ → ∃ d, m σ s = .ok d s ∧ itemsOf d = some (xs.map e.f)
def RfI {α : Type} (e : Ec α) : R (List α) → R D → Prop
  | .ok xs s, r => ∃ d, r = .ok d s ∧ itemsOf d = some (xs.map e.f)
  | .ex x s, r => r = .ex x s
  | .bad, _ => True
def TItE {α : Type} (π : List Pt) (m : M) (e : Ec α) (t : G (List α)) : Prop := ∀ σ s, Mt π σ → RfI e (t s) (m σ s)
theorem it_L {xs : List α} (h : TP π m k (eL e) xs) : TIt π m e xs := fun σ s M => let ⟨d, h1, r⟩ := h σ s M; ⟨d, h1, items_lst r⟩
theorem it_T {xs : List α} (h : TP π m k (eT e) xs) : TIt π m e xs := fun σ s M => let ⟨d, h1, r⟩ := h σ s M; ⟨d, h1, items_tup r⟩
theorem itE_of {c : Ec (List α)} {t : G (List α)} (h : TE π m k c t) (q : ∀ {x : List α} {d : D}, Rp k c x d → itemsOf d = some (x.map e.f)) : TItE π m e t := fun σ s M => by
  have := h σ s M
  cases z : t s with
  | ok x s1 => rw [z] at this; obtain ⟨d, h1, r⟩ := this; exact ⟨d, h1, q r⟩
  | ex x s1 => rw [z] at this; exact this
  | bad => trivial
theorem itE_L {t : G (List α)} (h : TE π m k (eL e) t) : TItE π m e t := itE_of h fun r => items_lst r
theorem TIt.te {xs : List α} (h : TIt π m e xs) : TItE π m e (pr xs) := fun σ s M => h σ s M
theorem no_str {d : D} {xs : List D} (h : itemsOf d = some xs) : ∀ z, d ≠ .str z := fun z e => by rw [e] at h; cases h
theorem tip_seq {xs : List α} (h : TIt π m e xs) : TIp π (iSeq m) e xs := fun σ s M => by
  obtain ⟨d, e1, this⟩ := h σ s M
  have ns := no_str this
  simp only [iSeq, e1, R.bind_ok]
  cases d with
  | str z => exact (ns z rfl).elim
  | _ => simp only [this, R.of_some]
theorem ti_r1 {t : G Int} (h : TE π m k eI t) : TI π (iR1 [m]) eI (bd t rangeT) := fun σ s M => by
  have h := h σ s M
  unfold bd
  cases q : t s with
  | bad => trivial
  | ex x s1 => rw [q] at h; have h : m σ s = .ex x s1 := h; simp only [iR1, mArgs, h, R.bind_ex]; exact rfl
  | ok x s1 =>
    rw [q] at h
    obtain ⟨d, e1, r⟩ := h
    simp only [iR1, mArgs, e1, R.bind_ok, r.int, rangeT]
    split
    · simp [RfS, rng, irg, eI]
    · trivial
theorem ti_r1p {x : Int} (h : TP π m k eI x) : TI π (iR1 [m]) eI (rangeT x) := ti_r1 h.te
theorem ti_r2 {t u : G Int} (h : TE π ma ka eI t) (h' : TE π mb kb eI u) : TI π (iR2 [ma, mb]) eI (bd t fun i => bd u fun j => rangeT2 i j) := fun σ s M => by
  have h := h σ s M
  unfold bd
  cases q : t s with
  | bad => trivial
  | ex x s1 => rw [q] at h; have h : ma σ s = .ex x s1 := h; simp only [iR2, mArgs, h, R.bind_ex]; exact rfl
  | ok x s1 =>
    rw [q] at h
    obtain ⟨d, e1, r⟩ := h
    have h' := h' σ s1 M
    simp only [R.bind_ok]
    cases q : u s1 with
    | bad => trivial
    | ex x s2 => rw [q] at h'; have h' : mb σ s1 = .ex x s2 := h'; simp only [iR2, mArgs, e1, R.bind_ok, h', R.bind_ex]; exact rfl
    | ok y s2 =>
      rw [q] at h'
      obtain ⟨d', e2, r'⟩ := h'
      simp only [iR2, mArgs, e1, e2, R.bind_ok, r.int, r'.int, rangeT2]
      split
      · simp [RfS, rng, irg2, eI]
      · trivial
theorem ti_r2p {x y : Int} (h : TP π ma ka eI x) (h' : TP π mb kb eI y) : TI π (iR2 [ma, mb]) eI (rangeT2 x y) := ti_r2 h.te h'.te
theorem zip2_ec {xs : List α} {ys : List β} : zip2 (xs.map e.f) (ys.map ea.f) = (xs.zip ys).map (eP e ea).f := zip2_map e.f ea.f xs ys
theorem enumF_ec : ∀ {xs : List α} {n : Nat}, enumF n (xs.map e.f) = (enumT n xs).map (eP eI e).f
  | [], _ => rfl
  | x :: xs, n => by simp only [List.map_cons, enumF, enumT]; rw [enumF_ec]; rfl
theorem tip_enum {xs : List α} (h : TIt π m e xs) : TIp π (iEnum m) (eP eI e) (enumT 0 xs) := fun σ s M => by
  obtain ⟨d, e1, r⟩ := h σ s M
  simp only [iEnum, e1, R.bind_ok, r, enumF_ec]
theorem ti_enum {t : G (List α)} (h : TItE π m e t) : TI π (iEnum m) (eP eI e) (bd t fun x => pr (enumT 0 x)) := fun σ s M => by
  have h := h σ s M
  unfold bd
  cases q : t s with
  | bad => trivial
  | ex x s1 => rw [q] at h; have h : m σ s = .ex x s1 := h; simp only [iEnum, h, R.bind_ex]; exact rfl
  | ok x s1 =>
    rw [q] at h
    obtain ⟨d, e1, r⟩ := h
    simp only [iEnum, e1, R.bind_ok, r, enumF_ec]
    exact rfl
/-! ### targets -/
def TB {α : Type} (tg : Tg) (e : Ec α) (x : α) (π π1 : List Pt) : Prop := ∀ σ, Mt π σ → ∃ σ1, tg.bind (e.f x) σ = some σ1 ∧ Mt π1 σ1
theorem tb_nm {i : Nat} {x : α} (hi' : Nat.blt i π.length = true := by rfl) : TB (.nm i) e x π (π.set i (.vr .fro e x)) := fun σ M => by
  have hl := M.len
  have hi := Nat.le_of_ble_eq_true hi'
  exact ⟨σ.set i (some (e.f x)), by unfold Tg.bind; rw [if_pos (by omega)], M.set i ⟨_, rfl, Rp.self e x⟩⟩
theorem tb_nmP {i : Nat} {x : α} [Pn e] (hi' : Nat.blt i π.length = true := by rfl) : TB (.nm i) e x π (π.set i (.vr .pl e x)) := fun σ M => by
  have hl := M.len
  have hi := Nat.le_of_ble_eq_true hi'
  exact ⟨σ.set i (some (e.f x)), by unfold Tg.bind; rw [if_pos (by omega)], M.set i ⟨_, rfl, Rp.selfP e x⟩⟩
theorem tb_t2 {a b : Tg} {x : α × β} {π1 π2 : List Pt} (h1 : TB a e x.1 π π1) (h2 : TB b ea x.2 π1 π2) : TB (.t2 a b) (eP e ea) x π π2 := fun σ M => by
  obtain ⟨σ1, e1, m1⟩ := h1 σ M
  obtain ⟨σ2, e2, m2⟩ := h2 σ1 m1
  exact ⟨σ2, by show (a.bind (e.f x.1) σ).bind _ = _; rw [e1]; exact e2, m2⟩
end
/-! ### lists made of lists -/
def lcG {α β : Type} (c : α → G Bool) (f : α → G β) : List α → List β → G (List β)
  | [], acc, s => .ok acc s
  | x :: xs, acc, s => match c x s with
    | .ok b s1 => if b = true then match f x s1 with
        | .ok y s2 => if acc.length < sizeLine then lcG c f xs (acc ++ [y]) s2 else .bad
        | _ => .bad
      else lcG c f xs acc s1
    | _ => .bad
def compG {α β : Type} (xs : List α) (c : α → G Bool) (f : α → G β) : G (List β) := lcG c f xs []
def mapG {α β : Type} (xs : List α) (f : α → G β) : G (List β) := lcG (fun _ => pr true) f xs []
@[irreducible] def mapT {α β : Type} (xs : List α) (f : α → β) : G (List β) := fun s => if xs.length ≤ sizeLine then .ok (xs.map f) s else .bad
@[irreducible] def filT {α β : Type} (xs : List α) (c : α → Bool) (f : α → β) : G (List β) := fun s => if xs.length ≤ sizeLine then .ok ((xs.filter c).map f) s else .bad
section
variable {α β γ : Type} {π : List Pt} {m : M} {k kb : Kd} {e : Ec α} {eb : Ec β} {src : Src} {tg : Tg} {vs : List Nat} {t : T} {c : α → G Bool} {f : α → G β}
theorem lc_core {kq : Kd} (q : ∀ (ys : List β) (ds : List D), (∀ p ∈ ys.zip ds, Rp kb eb p.1 p.2) → ys.length = ds.length → Rp kq (eL eb) ys (.lst true ds)) {σ : Env} (h : ∀ x, ∃ σ1, tg.bind (e.f x) σ = some σ1 ∧ (∀ s, RfB (c x s) (t σ1 s)) ∧ ∀ s, Rf kb eb (f x s) (m σ1 s)) :
    ∀ (xs : List α) (ys : List β) (ds : List D) (s : Sto), (∀ p ∈ ys.zip ds, Rp kb eb p.1 p.2) → ys.length = ds.length → Rf kq (eL eb) (lcG c f xs ys s) (lcR tg t m σ (xs.map e.f) ds s)
  | [], ys, ds, s, h1, h2 => ⟨_, rfl, q ys ds h1 h2⟩
  | x :: xs, ys, ds, s, h1, h2 => by
    obtain ⟨σ1, e1, hc, hf⟩ := h x
    have hc := hc s
    unfold lcG
    simp only [List.map_cons]
    unfold lcR
    simp only [e1]
    cases q1 : c x s with
    | bad => trivial
    | ex z s1 => trivial
    | ok b s1 =>
      rw [q1] at hc
      have hc : t σ1 s = .ok b s1 := hc
      simp only [hc]
      cases b with
      | false => exact lc_core q h xs ys ds s1 h1 h2
      | true =>
        simp only [if_true]
        have hf := hf s1
        cases q2 : f x s1 with
        | bad => trivial
        | ex z s1 => trivial
        | ok y s2 =>
          rw [q2] at hf
          obtain ⟨d, e2, r⟩ := hf
          simp only [e2, h2]
          split
          · exact lc_core q h xs (ys ++ [y]) (ds ++ [d]) s2 (by
              rw [List.zip_append h2]
              intro p hp
              rcases List.mem_append.mp hp with z | z
              · exact h1 p z
              · simp at z; subst z; exact r) (by simp [h2])
          · trivial
theorem fzs_of {kb : Kd} {ys : List β} : ∀ {ds : List D}, (∀ p ∈ ys.zip ds, Rp kb eb p.1 p.2) → ys.length = ds.length → fzs ds = ys.map eb.f := by
  induction ys with
  | nil => intro ds _ h; cases ds <;> simp_all
  | cons y ys ih =>
    intro ds h hl
    cases ds with
    | nil => simp at hl
    | cons d ds =>
      rw [List.map_cons, fzs, ih (fun p hp => h p (by simp [hp])) (by simpa using hl)]
      rw [(h (y, d) (by simp)).1]
theorem noFs_of {ys : List β} : ∀ {ds : List D}, (∀ p ∈ ys.zip ds, Rp .own eb p.1 p.2) → ys.length = ds.length → noFs ds = true := by
  induction ys with
  | nil => intro ds _ h; cases ds <;> simp_all
  | cons y ys ih =>
    intro ds h hl
    cases ds with
    | nil => simp at hl
    | cons d ds =>
      simp only [noFs, Bool.and_eq_true]
      exact ⟨(h (y, d) (by simp)).2, ih (fun p hp => h p (by simp [hp])) (by simpa using hl)⟩
theorem lcG_map {f : α → β} : ∀ (xs : List α) (acc : List β) (s : Sto), acc.length + xs.length ≤ sizeLine → lcG (fun _ => pr true) (fun x => pr (f x)) xs acc s = .ok (acc ++ xs.map f) s
  | [], acc, s, _ => by simp [lcG]
  | x :: xs, acc, s, h => by
    rw [List.length_cons] at h
    unfold lcG
    simp only [pr_ap, if_true]
    rw [if_pos (by omega), lcG_map xs _ s (by simp; omega)]
    simp
theorem lcG_fil {c : α → Bool} {f : α → β} : ∀ (xs : List α) (acc : List β) (s : Sto), acc.length + xs.length ≤ sizeLine → lcG (fun x => pr (c x)) (fun x => pr (f x)) xs acc s = .ok (acc ++ (xs.filter c).map f) s
  | [], acc, s, _ => by simp [lcG]
  | x :: xs, acc, s, h => by
    rw [List.length_cons] at h
    unfold lcG
    simp only [pr_ap]
    cases q : c x with
    | false => simp only [Bool.false_eq_true, if_false]; rw [lcG_fil xs _ s (by omega)]; simp [q]
    | true => simp only [if_true]; rw [if_pos (by omega), lcG_fil xs _ s (by simp; omega)]; simp [q]
theorem lc_any (hw : tg.within vs = true) {σ : Env} {s : Sto} {xs : List α} (M : Mt π σ) (hi : src σ s = .ok (xs.map e.f) s) (h : ∀ x, ∃ π1, TB tg e x (wipeP (fzP π) vs) π1 ∧ TC π1 t (c x) ∧ TE π1 m kb eb (f x)) {kq : Kd} (q : ∀ (ys : List β) (ds : List D), (∀ p ∈ ys.zip ds, Rp kb eb p.1 p.2) → ys.length = ds.length → Rp kq (eL eb) ys (.lst true ds)) :
    Rf kq (eL eb) (lcG c f xs [] s) (mLc src tg vs t m σ s) := by
  simp only [mLc, hi, R.bind_ok, hw, if_true]
  exact lc_core q (fun x => by
    obtain ⟨π1, h1, h2, h3⟩ := h x
    obtain ⟨σ1, e1, m1⟩ := h1 _ (M.fzE.wipe vs)
    exact ⟨σ1, e1, fun s => h2 σ1 s m1, fun s => h3 σ1 s m1⟩) xs [] [] s (by simp) rfl
theorem lc_anyE (hw : tg.within vs = true) {σ : Env} {s : Sto} {ts : G (List α)} (M : Mt π σ) (hi : TI π src e ts) (h : ∀ x, ∃ π1, TB tg e x (wipeP (fzP π) vs) π1 ∧ TC π1 t (c x) ∧ TE π1 m kb eb (f x)) {kq : Kd} (q : ∀ (ys : List β) (ds : List D), (∀ p ∈ ys.zip ds, Rp kb eb p.1 p.2) → ys.length = ds.length → Rp kq (eL eb) ys (.lst true ds)) :
    Rf kq (eL eb) (bd ts (fun xs => lcG c f xs []) s) (mLc src tg vs t m σ s) := by
  have hi := hi σ s M
  unfold bd
  cases z : ts s with
  | bad => trivial
  | ex x s1 => rw [z] at hi; have hi : src σ s = .ex x s1 := hi; simp only [mLc, hi, R.bind_ex]; exact rfl
  | ok xs s1 =>
    rw [z] at hi
    have hi : src σ s = .ok (xs.map e.f) s1 := hi
    simp only [mLc, hi, R.bind_ok, hw, if_true]
    exact lc_core q (fun x => by
      obtain ⟨π1, h1, h2, h3⟩ := h x
      obtain ⟨σ1, e1, m1⟩ := h1 _ (M.fzE.wipe vs)
      exact ⟨σ1, e1, fun s => h2 σ1 s m1, fun s => h3 σ1 s m1⟩) xs [] [] s1 (by simp) rfl
theorem q_own {ys : List β} {ds : List D} (h : ∀ p ∈ ys.zip ds, Rp .own eb p.1 p.2) (hl : ys.length = ds.length) : Rp .own (eL eb) ys (.lst true ds) := rp_own (fzs_of h hl) (noFs_of h hl)
-- a list of what is owned, of anything; of a pure source, another one; with a test or none
theorem te_lcO {xs : List α} (hi : TIp π src e xs) (h : ∀ x, ∃ π1, TB tg e x (wipeP (fzP π) vs) π1 ∧ TC π1 t (c x) ∧ TE π1 m .own eb (f x)) (hw : tg.within vs = true := by rfl) : TE π (mLc src tg vs t m) .own (eL eb) (compG xs c f) := fun σ s M => lc_any hw M (hi σ s M) h fun _ _ => q_own
theorem te_lcOE {ts : G (List α)} (hi : TI π src e ts) (h : ∀ x, ∃ π1, TB tg e x (wipeP (fzP π) vs) π1 ∧ TC π1 t (c x) ∧ TE π1 m .own eb (f x)) (hw : tg.within vs = true := by rfl) : TE π (mLc src tg vs t m) .own (eL eb) (bd ts fun xs => compG xs c f) := fun σ s M => lc_anyE hw M hi h fun _ _ => q_own
theorem tc_true : TC π tTrue (pr true) := fun σ s M => rfl
theorem te_mapO {xs : List α} (hi : TIp π src e xs) (h : ∀ x, ∃ π1, TB tg e x (wipeP (fzP π) vs) π1 ∧ TE π1 m .own eb (f x)) (hw : tg.within vs = true := by rfl) : TE π (mLc src tg vs tTrue m) .own (eL eb) (mapG xs f) := te_lcO hi (fun x => let ⟨π1, a, b⟩ := h x; ⟨π1, a, tc_true, b⟩) hw
theorem te_mapOE {ts : G (List α)} (hi : TI π src e ts) (h : ∀ x, ∃ π1, TB tg e x (wipeP (fzP π) vs) π1 ∧ TE π1 m .own eb (f x)) (hw : tg.within vs = true := by rfl) : TE π (mLc src tg vs tTrue m) .own (eL eb) (bd ts fun xs => mapG xs f) := te_lcOE hi (fun x => let ⟨π1, a, b⟩ := h x; ⟨π1, a, tc_true, b⟩) hw
theorem Rf.less {γ : Type} {k : Kd} {e : Ec γ} {a b : R γ} {r : R D} (h : Rf k e a r) (q : b = .bad ∨ b = a) : Rf k e b r := by
  rcases q with rfl | rfl
  · trivial
  · exact h
theorem mapT_le {xs : List α} {f : α → β} {s : Sto} : mapT xs f s = .bad ∨ mapT xs f s = mapG xs (fun x => pr (f x)) s := by
  unfold mapT
  split
  · exact .inr (by rw [mapG, lcG_map xs [] s (by simpa using ‹_›)]; simp)
  · exact .inl rfl
theorem filT_le {xs : List α} {c : α → Bool} {f : α → β} {s : Sto} : filT xs c f s = .bad ∨ filT xs c f s = compG xs (fun x => pr (c x)) (fun x => pr (f x)) s := by
  unfold filT
  split
  · exact .inr (by rw [compG, lcG_fil xs [] s (by simpa using ‹_›)]; simp)
  · exact .inl rfl
theorem te_mapTO {f : α → β} {xs : List α} (hi : TIp π src e xs) (h : ∀ x, ∃ π1, TB tg e x (wipeP (fzP π) vs) π1 ∧ TP π1 m .own eb (f x)) (hw : tg.within vs = true := by rfl) : TE π (mLc src tg vs tTrue m) .own (eL eb) (mapT xs f) := fun σ s M => (te_mapO hi (fun x => let ⟨π1, a, b⟩ := h x; ⟨π1, a, b.te⟩) hw σ s M).less mapT_le
theorem te_filTO {c : α → Bool} {f : α → β} {xs : List α} (hi : TIp π src e xs) (h : ∀ x, ∃ π1, TB tg e x (wipeP (fzP π) vs) π1 ∧ TCp π1 t (c x) ∧ TP π1 m .own eb (f x)) (hw : tg.within vs = true := by rfl) : TE π (mLc src tg vs t m) .own (eL eb) (filT xs c f) := fun σ s M => (te_lcO hi (fun x => let ⟨π1, a, b, d⟩ := h x; ⟨π1, a, b.tc, d.te⟩) hw σ s M).less filT_le
end
end Zm
set_option linter.all false
set_option autoImplicit false
set_option maxRecDepth 100000
/-! TL3: statements, functions. -/
namespace Zm
open PySem
inductive RB (τ ρ : Type) where
  | nx (v : τ) (s : Sto) | rt (r : ρ) (s : Sto) | bk (v : τ) (s : Sto) | ct (v : τ) (s : Sto) | ex (x : Xc) (s : Sto) | bad
abbrev B (τ ρ : Type) := Sto → RB τ ρ
def nxB {τ ρ : Type} (v : τ) : B τ ρ := fun s => .nx v s
def rtB {τ ρ : Type} (r : ρ) : B τ ρ := fun s => .rt r s
def badB {τ ρ : Type} : B τ ρ := fun _ => .bad
/-- an expression, and what follows -/
def eb {α τ ρ : Type} (t : G α) (k : α → B τ ρ) : B τ ρ := fun s => match t s with
  | .ok x s' => k x s'
  | .ex x s' => .ex x s'
  | .bad => .bad
/-- what is known, given a name -/
def lt {α τ ρ : Type} (x : α) (k : α → B τ ρ) : B τ ρ := k x
/-- one block, and what follows -/
def sq {τ τ' ρ : Type} (a : B τ ρ) (k : τ → B τ' ρ) : B τ' ρ := fun s => match a s with
  | .nx v s' => k v s'
  | .rt r s' => .rt r s'
  | .ex x s' => .ex x s'
  | _ => .bad
def ifB {τ ρ : Type} (c : G Bool) (a b : B τ ρ) : B τ ρ := eb c fun z => if z = true then a else b
def forT {α τ ρ : Type} (f : α → τ → B τ ρ) : List α → τ → B τ ρ
  | [], v, s => .nx v s
  | x :: xs, v, s => match f x v s with
    | .nx v s => forT f xs v s
    | .ct v s => forT f xs v s
    | .bk v s => .nx v s
    | .rt r s => .rt r s
    | .ex x s => .ex x s
    | .bad => .bad
def whileT {τ ρ : Type} (c : τ → G Bool) (f : τ → B τ ρ) : Nat → τ → B τ ρ
  | 0, _, _ => .bad
  | n + 1, v, s => match c v s with
    | .ok b s => if b = true then (match f v s with
      | .nx v s => whileT c f n v s
      | .ct v s => whileT c f n v s
      | .bk v s => .nx v s
      | .rt r s => .rt r s
      | .ex x s => .ex x s
      | .bad => .bad) else .nx v s
    | .ex x s => .ex x s
    | .bad => .bad
def fnT {τ ρ : Type} (b : B τ ρ) : G ρ := fun s => match b s with
  | .rt r s => .ok r s
  | .ex x s => .ex x s
  | _ => .bad
/-- a function that ends without a return -/
def fnU {τ : Type} (b : B τ Unit) : G Unit := fun s => match b s with
  | .rt r s => .ok r s
  | .nx _ s => .ok () s
  | .ex x s => .ex x s
  | _ => .bad
def Rs {τ ρ : Type} (π' : τ → List Pt) (k : Kd) (e : Ec ρ) : RB τ ρ → RS → Prop
  | .nx v s, r => ∃ σ, r = .nx σ s ∧ Mt (π' v) σ
  | .rt x s, r => ∃ d, r = .rt d s ∧ Rp k e x d
  | .bk v s, r => ∃ σ, r = .bk σ s ∧ Mt (π' v) σ
  | .ct v s, r => ∃ σ, r = .ct σ s ∧ Mt (π' v) σ
  | .ex x s, r => ∃ σ, r = .ex x σ s
  | .bad, _ => True
def TS {τ ρ : Type} (π : List Pt) (m : MS) (π' : τ → List Pt) (k : Kd) (e : Ec ρ) (t : B τ ρ) : Prop := ∀ σ s, Mt π σ → Rs π' k e (t s) (m σ s)
section
theorem ptm {α : Type} {k : Kd} {e : Ec α} {x : α} {d : D} (r : Rp k e x d) : PtM (.vr k e x) (some d) := ⟨d, rfl, r⟩
variable {α β γ τ τ' τ1 ρ : Type} {π π1 : List Pt} {m ma mb : M} {ms : List M} {a b rest : MS} {k ka kb kc kr : Kd} {e : Ec α} {ea : Ec β} {eb' : Ec γ} {er : Ec ρ} {x : α} {t : G α} {π' : τ → List Pt} {i j : Nat} {msk : List Bool} {c : T} {g : G Bool} {cb : Bool} {tr : B τ ρ}
theorem ts_one (h : TS π (mSeq a mNil) π' kr er tr) : TS π a π' kr er tr := fun σ s M => by
  have := h σ s M
  have e : mSeq a mNil σ s = a σ s := by
    unfold mSeq
    cases a σ s <;> rfl
  rw [e] at this; exact this
theorem ts_nil {v : τ} (w : Wk π (π' v)) : TS π mNil π' kr er (nxB v) := fun σ s M => ⟨σ, rfl, w σ M⟩
theorem ts_bad : TS π a π' kr er badB := fun σ s M => trivial
theorem Rs.eb {t : G α} {q : α → B τ ρ} {r : R D} {σ : Env} {s : Sto} {h : D → Sto → RS} (a : Rf k e (t s) r) (b : ∀ x d s, Rp k e x d → Rs π' kr er (q x s) (h d s)) : Rs π' kr er (eb t q s) (r.to σ h) := by
  unfold Zm.eb
  cases z : t s with
  | bad => trivial
  | ex x s1 => rw [z] at a; have a : r = .ex x s1 := a; rw [a]; exact ⟨σ, rfl⟩
  | ok x s1 => rw [z] at a; obtain ⟨d, rfl, h2⟩ := a; exact b x d s1 h2
theorem ts_retE {t : G ρ} (h : TE π m kr er t) : TS π (mSeq (mRet m) rest) π' kr er (eb t rtB) := fun σ s M => by
  have h := h σ s M
  unfold Zm.eb
  cases z : t s with
  | bad => trivial
  | ex x s1 => rw [z] at h; have h : m σ s = .ex x s1 := h; simp only [mSeq, mRet, h, R.to_ex, RS.then_ex]; exact ⟨σ, rfl⟩
  | ok x s1 => rw [z] at h; obtain ⟨d, h1, h2⟩ := h; simp only [mSeq, mRet, h1, R.to_ok, RS.then_rt]; exact ⟨d, rfl, h2⟩
theorem ts_retP {x : ρ} (h : TP π m kr er x) : TS π (mSeq (mRet m) rest) π' kr er (rtB x) := fun σ s M => by
  obtain ⟨d, h1, h2⟩ := h σ s M
  simp only [mSeq, mRet, h1, R.to_ok, RS.then_rt]
  exact ⟨d, rfl, h2⟩
theorem ts_retV (i : Nat) {x : ρ} (h : π[i]? = some (.vr kr er x) := by rfl) : TS π (mSeq (mRetV i) rest) π' kr er (rtB x) := fun σ s M => by
  obtain ⟨d, q, r⟩ := M.get h
  simp only [mSeq, mRetV, q, RS.then_rt]
  exact ⟨d, rfl, r⟩
/-! assignments -/
theorem ts_setE {q : α → B τ ρ} (h : TE π m .own e t) (n : ∀ x, TS (π.set i (.vr .own e x)) rest π' kr er (q x)) (hi' : Nat.blt i π.length = true := by rfl) : TS π (mSeq (mSetD msk i m) rest) π' kr er (eb t q) := fun σ s M => by
  have hl := M.len
  have hi := Nat.le_of_ble_eq_true hi'
  have h := h σ s M
  unfold Zm.eb
  cases z : t s with
  | bad => trivial
  | ex x s1 => rw [z] at h; have h : m σ s = .ex x s1 := h; simp only [mSeq, mSetD, h, R.to_ex, RS.then_ex]; exact ⟨σ, rfl⟩
  | ok x s1 =>
    rw [z] at h; obtain ⟨d, h1, h2⟩ := h
    simp only [mSeq, mSetD, h1, R.to_ok]
    rw [if_pos h2.2, if_pos (by omega)]
    exact n x _ s1 (M.set i ⟨d, rfl, h2⟩)
theorem ts_setPlE {q : α → B τ ρ} (h : TE π m .pl e t) (n : ∀ x, TS (π.set i (.vr .pl e x)) rest π' kr er (q x)) (hi' : Nat.blt i π.length = true := by rfl) : TS π (mSeq (mSetD msk i m) rest) π' kr er (eb t q) := fun σ s M => by
  have hl := M.len
  have hi := Nat.le_of_ble_eq_true hi'
  have h := h σ s M
  unfold Zm.eb
  cases z : t s with
  | bad => trivial
  | ex x s1 => rw [z] at h; have h : m σ s = .ex x s1 := h; simp only [mSeq, mSetD, h, R.to_ex, RS.then_ex]; exact ⟨σ, rfl⟩
  | ok x s1 =>
    rw [z] at h; obtain ⟨d, h1, h2⟩ := h
    simp only [mSeq, mSetD, h1, R.to_ok]
    rw [if_pos (plain_noF _ h2.2), if_pos (by omega)]
    exact n x _ s1 (M.set i ⟨d, rfl, h2⟩)
theorem ts_setAE {q : α → B τ ρ} (h : TE (restrP msk π) m k e t) (n : ∀ x, TS ((frzP msk π).set i (.vr .any e x)) rest π' kr er (q x)) (hi' : Nat.blt i π.length = true := by rfl) : TS π (mSeq (mSetD msk i m) rest) π' kr er (eb t q) := fun σ s M => by
  have hl := M.len
  have hi := Nat.le_of_ble_eq_true hi'
  have h1 := h σ s M.restr'
  have h2 := h _ s (M.restr (bs := msk))
  unfold Zm.eb
  cases z : t s with
  | bad => trivial
  | ex x s1 => rw [z] at h1; have h1 : m σ s = .ex x s1 := h1; simp only [mSeq, mSetD, h1, R.to_ex, RS.then_ex]; exact ⟨σ, rfl⟩
  | ok x s1 =>
    rw [z] at h1 h2; obtain ⟨d, h1, r1⟩ := h1; obtain ⟨d2, h2, r2⟩ := h2
    simp only [mSeq, mSetD, h1, R.to_ok]
    by_cases hn : noF d = true
    · rw [if_pos hn, if_pos (by omega)]
      exact n x _ s1 (M.frz'.set i ⟨d, rfl, r1.any⟩)
    · rw [if_neg hn]
      simp only [mSetF, h2, R.to_ok]
      rw [if_pos (by omega)]
      exact n x _ s1 (M.frz.set i ⟨_, rfl, r2.fz.any⟩)
theorem ts_setP {q : α → B τ ρ} (h : TP π m .own e x) (n : ∀ x, TS (π.set i (.vr .own e x)) rest π' kr er (q x)) (hi' : Nat.blt i π.length = true := by rfl) : TS π (mSeq (mSetD msk i m) rest) π' kr er (lt x q) := ts_setE h.te n hi'
theorem ts_setPlP {q : α → B τ ρ} (h : TP π m .pl e x) (n : ∀ x, TS (π.set i (.vr .pl e x)) rest π' kr er (q x)) (hi' : Nat.blt i π.length = true := by rfl) : TS π (mSeq (mSetD msk i m) rest) π' kr er (lt x q) := ts_setPlE h.te n hi'
theorem ts_do {q : B τ ρ} (h : TE π m k e t) (n : TS π rest π' kr er q) : TS π (mSeq (mDo m) rest) π' kr er (eb t fun _ => q) := fun σ s M => by
  have h := h σ s M
  unfold Zm.eb
  cases z : t s with
  | bad => trivial
  | ex x s1 => rw [z] at h; have h : m σ s = .ex x s1 := h; simp only [mSeq, mDo, h, R.to_ex, RS.then_ex]; exact ⟨σ, rfl⟩
  | ok x s1 =>
    rw [z] at h; obtain ⟨d, h1, h2⟩ := h
    simp only [mSeq, mDo, h1, R.to_ok, RS.then_nx]
    exact n σ s1 M
/-! a, b = .., .. -/
theorem ts_par2Pl {t : G α} {u : G β} {q : α → β → B τ ρ} (h : TE π ma .pl e t) (h' : TE π mb .pl ea u) (n : ∀ x y, TS ((π.set i (.vr .pl e x)).set j (.vr .pl ea y)) rest π' kr er (q x y)) (hi' : Nat.blt i π.length = true := by rfl) (hj' : Nat.blt j π.length = true := by rfl) :
    TS π (mSeq (mPar2 msk i j [ma, mb]) rest) π' kr er (eb t fun x => eb u fun y => q x y) := fun σ s M => by
  have hl := M.len
  have hi := Nat.le_of_ble_eq_true hi'
  have hj := Nat.le_of_ble_eq_true hj'
  have h := h σ s M
  unfold Zm.eb
  cases z : t s with
  | bad => trivial
  | ex x s1 => rw [z] at h; have h : ma σ s = .ex x s1 := h; simp only [mSeq, mPar2, mArgs, h, R.bind_ex, R.to_ex, RS.then_ex]; exact ⟨σ, rfl⟩
  | ok x s1 =>
    rw [z] at h; obtain ⟨d, h1, r1⟩ := h
    have h' := h' σ s1 M
    simp only []
    cases z : u s1 with
    | bad => trivial
    | ex x s2 => rw [z] at h'; have h' : mb σ s1 = .ex x s2 := h'; simp only [mSeq, mPar2, mArgs, h1, h', R.bind_ok, R.bind_ex, R.to_ex, RS.then_ex]; exact ⟨σ, rfl⟩
    | ok y s2 =>
      rw [z] at h'; obtain ⟨d', h2, r2⟩ := h'
      simp only [mSeq, mPar2, mArgs, h1, h2, R.bind_ok, R.to_ok]
      rw [if_pos ⟨plain_noF _ r1.2, plain_noF _ r2.2⟩, if_pos ⟨by omega, by omega⟩]
      exact n x y _ s2 ((M.set i (ptm r1)).set j (ptm r2))
/-! ifs: what follows is in both; or behind both -/
theorem seq_if {c : T} {a b rest : MS} {σ : Env} {s : Sto} : mSeq (mIf c a b) rest σ s = (c σ s).to σ fun z s' => if z = true then mSeq a rest σ s' else mSeq b rest σ s' := by
  simp only [mSeq, mIf]
  cases c σ s with
  | ok z s1 => simp only [R.to_ok]; split <;> rfl
  | ex x s1 => rfl
  | bad => rfl
theorem RfB.to {r : R Bool} {σ : Env} {s : Sto} {q : Bool → B τ ρ} {h : Bool → Sto → RS} (a : RfB (g s) r) (b : ∀ z s, Rs π' kr er (q z s) (h z s)) : Rs π' kr er (eb g q s) (r.to σ h) := by
  unfold Zm.eb
  cases z : g s with
  | bad => trivial
  | ex x s1 => rw [z] at a; have a : r = .ex x s1 := a; rw [a]; exact ⟨σ, rfl⟩
  | ok x s1 => rw [z] at a; have a : r = .ok x s1 := a; rw [a]; exact b x s1
theorem ts_ifD {u v : B τ ρ} (hc : TC π c g) (h1 : TS π (mSeq a rest) π' kr er u) (h2 : TS π (mSeq b rest) π' kr er v) : TS π (mSeq (mIf c a b) rest) π' kr er (ifB g u v) := fun σ s M => by
  rw [seq_if]
  exact (hc σ s M).to fun z s => by
    cases z
    · exact h2 σ s M
    · exact h1 σ s M
theorem ts_ifDp {u v : B τ ρ} (hc : TCp π c cb) (h1 : TS π (mSeq a rest) π' kr er u) (h2 : TS π (mSeq b rest) π' kr er v) : TS π (mSeq (mIf c a b) rest) π' kr er (if cb = true then u else v) := fun σ s M => by
  rw [seq_if, hc σ s M, R.to_ok]
  cases cb
  · exact h2 σ s M
  · exact h1 σ s M
theorem ts_skip {u : B τ ρ} (h : TS π rest π' kr er u) : TS π (mSeq mNil rest) π' kr er u := fun σ s M => h σ s M
theorem Rs.sq {u : B τ ρ} {q : τ → B τ' ρ} {πq : τ' → List Pt} {r : RS} {s : Sto} (h : Rs π' kr er (u s) r) (n : ∀ v, TS (π' v) rest πq kr er (q v)) : Rs πq kr er (sq u q s) (r.then rest) := by
  unfold Zm.sq
  cases z : u s with
  | nx v s1 => rw [z] at h; obtain ⟨σ1, rfl, m1⟩ := h; exact n v σ1 s1 m1
  | rt r s1 => rw [z] at h; obtain ⟨d, rfl, m1⟩ := h; exact ⟨d, rfl, m1⟩
  | ex x s1 => rw [z] at h; obtain ⟨σ1, rfl⟩ := h; exact ⟨σ1, rfl⟩
  | bk v s1 => trivial
  | ct v s1 => trivial
  | bad => trivial
theorem ts_sq {u : B τ ρ} {q : τ → B τ' ρ} {πq : τ' → List Pt} (h : TS π a π' kr er u) (n : ∀ v, TS (π' v) rest πq kr er (q v)) : TS π (mSeq a rest) πq kr er (sq u q) := fun σ s M => (h σ s M).sq n
theorem ts_ifp {u v : B τ ρ} (hc : TCp π c cb) (h1 : TS π a π' kr er u) (h2 : TS π b π' kr er v) : TS π (mIf c a b) π' kr er (if cb = true then u else v) := fun σ s M => by
  simp only [mIf, hc σ s M, R.to_ok]
  cases cb
  · exact h2 σ s M
  · exact h1 σ s M
/-! loops -/
theorem for_core' {tg : Tg} {body : MS} {f : α → τ → B τ ρ} (h : ∀ x v, ∃ π1, TB tg e x (π' v) π1 ∧ TS π1 body π' kr er (f x v)) : ∀ (xs : List α) (v : τ) (σ : Env) (s : Sto), Mt (π' v) σ → Rs π' kr er (forT f xs v s) (forR tg body (xs.map e.f) σ s)
  | [], v, σ, s, M => ⟨σ, rfl, M⟩
  | x :: xs, v, σ, s, M => by
    obtain ⟨π1, hb, hs⟩ := h x v
    obtain ⟨σ1, e1, m1⟩ := hb σ M
    have := hs σ1 s m1
    rw [List.map_cons]
    unfold forT forR
    simp only [e1]
    cases z : f x v s with
    | nx v s1 => rw [z] at this; obtain ⟨σ2, e2, m2⟩ := this; simp only [e2]; exact for_core' h xs v σ2 s1 m2
    | ct v s1 => rw [z] at this; obtain ⟨σ2, e2, m2⟩ := this; simp only [e2]; exact for_core' h xs v σ2 s1 m2
    | bk v s1 => rw [z] at this; obtain ⟨σ2, e2, m2⟩ := this; simp only [e2]; exact ⟨σ2, rfl, m2⟩
    | rt r s1 => rw [z] at this; obtain ⟨d, e2, m2⟩ := this; simp only [e2]; exact ⟨d, rfl, m2⟩
    | ex y s1 => rw [z] at this; obtain ⟨σ2, e2⟩ := this; simp only [e2]; exact ⟨σ2, rfl⟩
    | bad => trivial
theorem ts_for {src : Src} {tg : Tg} {body : MS} {f : α → τ → B τ ρ} {xs : List α} {v0 : τ} (π0 : τ → List Pt) (hi : TIp (restrP msk π) src e xs) (w : Wk (frzP msk π) (π0 v0)) (h : ∀ x v, ∃ π1, TB tg e x (π0 v) π1 ∧ TS π1 body π0 kr er (f x v)) : TS π (mFor msk src tg body) π0 kr er (forT f xs v0) := fun σ s M => by
  simp only [mFor, hi _ s (M.restr (bs := msk)), R.to_ok]
  exact for_core' h xs v0 _ s (w _ M.frz)
theorem ts_forP {src : Src} {tg : Tg} {body : MS} {f : α → τ → B τ ρ} {ts : G (List α)} {v0 : τ} (π0 : τ → List Pt) (hi : TI π src e ts) (w : Wk π (π0 v0)) (h : ∀ x v, ∃ π1, TB tg e x (π0 v) π1 ∧ TS π1 body π0 kr er (f x v)) : TS π (mForP src tg body) π0 kr er (eb ts fun xs => forT f xs v0) := fun σ s M => by
  have hi := hi σ s M
  unfold Zm.eb
  cases z : ts s with
  | bad => trivial
  | ex x s1 => rw [z] at hi; have hi : src σ s = .ex x s1 := hi; simp only [mForP, hi, R.to_ex]; exact ⟨σ, rfl⟩
  | ok xs s1 =>
    rw [z] at hi; have hi : src σ s = .ok (xs.map e.f) s1 := hi
    simp only [mForP, hi, R.to_ok]
    exact for_core' h xs v0 _ s1 (w _ M)
theorem while_core {body : MS} {f : τ → B τ ρ} {gc : τ → G Bool} (hc : ∀ v, TC (π' v) c (gc v)) (h : ∀ v, TS (π' v) body π' kr er (f v)) : ∀ (n : Nat) (v : τ) (σ : Env) (s : Sto), Mt (π' v) σ → Rs π' kr er (whileT gc f n v s) (whileR c body n σ s)
  | 0, v, σ, s, M => trivial
  | n + 1, v, σ, s, M => by
    have hc' := hc v σ s M
    unfold whileT whileR
    cases z : gc v s with
    | bad => trivial
    | ex x s1 => rw [z] at hc'; have hc' : c σ s = .ex x s1 := hc'; rw [hc']; exact ⟨σ, rfl⟩
    | ok b s1 =>
      rw [z] at hc'; have hc' : c σ s = .ok b s1 := hc'; rw [hc']
      simp only [R.to_ok]
      cases b with
      | false => exact ⟨σ, rfl, M⟩
      | true =>
        simp only [if_true]
        have := h v σ s1 M
        cases z : f v s1 with
        | nx v s1 => rw [z] at this; obtain ⟨σ2, e2, m2⟩ := this; simp only [e2]; exact while_core hc h n v σ2 s1 m2
        | ct v s1 => rw [z] at this; obtain ⟨σ2, e2, m2⟩ := this; simp only [e2]; exact while_core hc h n v σ2 s1 m2
        | bk v s1 => rw [z] at this; obtain ⟨σ2, e2, m2⟩ := this; simp only [e2]; exact ⟨σ2, rfl, m2⟩
        | rt r s1 => rw [z] at this; obtain ⟨d, e2, m2⟩ := this; simp only [e2]; exact ⟨d, rfl, m2⟩
        | ex y s1 => rw [z] at this; obtain ⟨σ2, e2⟩ := this; simp only [e2]; exact ⟨σ2, rfl⟩
        | bad => trivial
theorem ts_while {body : MS} {f : τ → B τ ρ} {gc : τ → G Bool} {n : Nat} {v0 : τ} (π0 : τ → List Pt) (w : Wk π (π0 v0)) (hc : ∀ v, TC (π0 v) c (gc v)) (h : ∀ v, TS (π0 v) body π0 kr er (f v)) : TS π (whileR c body n) π0 kr er (whileT gc f n v0) := fun σ s M => while_core hc h n v0 σ s (w σ M)
/-! a list's own methods -/
theorem ts_upd {g : UG} {q : α → B τ ρ} {xs : List β} {k' : α → Option (List β)} (i : Nat) (hx : π[i]? = some (.vr .own (eL ea) xs)) (h : TE π m .own e t)
    (hg : ∀ x d ds, Rp .own e x d → fzs ds = xs.map ea.f → noFs ds = true → ∀ ys, k' x = some ys → ∃ ds', g ds [d] = some ds' ∧ fzs ds' = ys.map ea.f ∧ noFs ds' = true) (qb : α → B τ ρ) (n : ∀ x ys, k' x = some ys → TS (π.set i (.vr .own (eL ea) ys)) rest π' kr er (qb x)) (n0 : ∀ x, k' x = none → qb x = badB) :
    TS π (mSeq (mUpd g msk i [m]) rest) π' kr er (eb t qb) := fun σ s M => by
  have h := h σ s M
  obtain ⟨d0, e0, r0⟩ := M.get hx
  obtain ⟨ds, rfl, q1, q2⟩ := r0.lstO
  unfold Zm.eb
  cases z : t s with
  | bad => trivial
  | ex x s1 => rw [z] at h; have h : m σ s = .ex x s1 := h; simp only [mSeq, mUpd, e0, mArgs, h, R.bind_ex, R.to_ex, RS.then_ex]; exact ⟨σ, rfl⟩
  | ok x s1 =>
    rw [z] at h; obtain ⟨d, h1, r1⟩ := h
    simp only [mSeq, mUpd, e0, mArgs, h1, R.bind_ok, R.to_ok]
    rw [if_pos (by simp [r1.2])]
    cases hk : k' x with
    | none => rw [n0 x hk]; trivial
    | some ys =>
      obtain ⟨ds', g1, g2, g3⟩ := hg x d ds r1 q1 q2 ys hk
      simp only [g1, RS.then_nx]
      exact n x ys hk _ s1 (M.set i ⟨_, rfl, rp_own g2 g3⟩)
theorem ts_updA {g : UG} {q : α → B τ ρ} {kx : Kd} {xs : List β} {k' : α → Option (List β)} (i : Nat) (hx : ∀ d, Rp kx (eL ea) xs d → Rp .top (eL ea) xs d) (h0 : (frzP msk π)[i]? = some (.vr kx (eL ea) xs)) (h : TE (restrP msk π) m k e t)
    (hg : ∀ x d ds, Rp k e x d → fzs ds = xs.map ea.f → ∀ ys, k' x = some ys → (∃ ds', g ds [d] = some ds' ∧ fzs ds' = ys.map ea.f) ∧ (∃ ds', g ds [fz d] = some ds' ∧ fzs ds' = ys.map ea.f)) (qb : α → B τ ρ) (n : ∀ x ys, k' x = some ys → TS ((frzP msk π).set i (.vr .top (eL ea) ys)) rest π' kr er (qb x)) (n0 : ∀ x, k' x = none → qb x = badB) :
    TS π (mSeq (mUpd g msk i [m]) rest) π' kr er (eb t qb) := fun σ s M => by
  have hr := h _ s (M.restr (bs := msk))
  have h := h σ s M.restr'
  obtain ⟨d0, e0, r0⟩ := M.frz'.get h0
  obtain ⟨ds, rfl, q1⟩ := (hx _ r0).lstT
  obtain ⟨d2, e2, r2⟩ := M.frz.get h0
  obtain ⟨ds2, rfl, q2⟩ := (hx _ r2).lstT
  unfold Zm.eb
  cases z : t s with
  | bad => trivial
  | ex x s1 => rw [z] at h; have h : m σ s = .ex x s1 := h; simp only [mSeq, mUpd, e0, mArgs, h, R.bind_ex, R.to_ex, RS.then_ex]; exact ⟨σ, rfl⟩
  | ok x s1 =>
    rw [z] at h hr; obtain ⟨d, h1, r1⟩ := h; obtain ⟨d', h1', r1'⟩ := hr
    simp only [mSeq, mUpd, e0, mArgs, h1, R.bind_ok, R.to_ok]
    cases hk : k' x with
    | none => rw [n0 x hk]; trivial
    | some ys =>
      obtain ⟨⟨ds', g1, g2⟩, _⟩ := hg x d ds r1 q1 ys hk
      obtain ⟨_, ds3, g3, g4⟩ := hg x d' ds2 r1' q2 ys hk
      split
      · simp only [g1, RS.then_nx]
        exact n x ys hk _ s1 (M.frz'.set i ⟨_, rfl, rp_top g2⟩)
      · simp only [mUpdF, e2, mArgs, h1', R.bind_ok, R.to_ok, fzs, g3, RS.then_nx]
        exact n x ys hk _ s1 (M.frz.set i ⟨_, rfl, rp_top g4⟩)
theorem fzs_app {xs : List β} {ds : List D} {x : β} {d : D} (h : fzs ds = xs.map ea.f) (r : fz d = ea.f x) : fzs (ds ++ [d]) = (xs ++ [x]).map ea.f := by
  rw [fzs_eq] at h ⊢; simp [h, r]
theorem noFs_app {ds es : List D} (h : noFs ds = true) (h' : noFs es = true) : noFs (ds ++ es) = true := by
  rw [noFs_iff] at h h' ⊢
  intro x hx
  rcases List.mem_append.mp hx with z | z
  · exact h x z
  · exact h' x z
/-- xs.append(x) -/
def apB {β τ ρ : Type} (xs : List β) (x : β) (k : List β → B τ ρ) : B τ ρ := fun s => if xs.length < sizeLine then k (xs ++ [x]) s else .bad
def apO {β : Type} (xs : List β) (x : β) : Option (List β) := if xs.length < sizeLine then some (xs ++ [x]) else none
theorem ts_appE {xs : List α} {q : List α → B τ ρ} (i : Nat) (h : TE π m .own e t) (n : ∀ ys, TS (π.set i (.vr .own (eL e) ys)) rest π' kr er (q ys)) (hx : π[i]? = some (.vr .own (eL e) xs) := by rfl) : TS π (mSeq (mUpd uApp msk i [m]) rest) π' kr er (eb t fun x => apB xs x q) := by
  refine ts_upd (q := fun _ => badB) (k' := apO xs) i hx h (fun x d ds r q1 q2 ys hk => ?_) _ (fun x ys hk => ?_) (fun x hk => ?_)
  · unfold apO at hk
    split at hk <;> simp at hk
    subst hk
    have := rp_len q1
    exact ⟨ds ++ [d], by unfold uApp; simp only []; rw [if_pos (by omega)], fzs_app q1 r.1, noFs_app q2 (by simp [r.2])⟩
  · unfold apO at hk
    split at hk <;> simp at hk
    subst hk
    intro σ s M
    have := n (xs ++ [x]) σ s M
    unfold apB; rw [if_pos ‹_›]; exact this
  · unfold apO at hk
    split at hk <;> simp at hk
    funext s
    unfold apB; rw [if_neg ‹_›]; rfl
theorem ts_appP {xs : List α} {q : List α → B τ ρ} (i : Nat) (h : TP π m .own e x) (n : ∀ ys, TS (π.set i (.vr .own (eL e) ys)) rest π' kr er (q ys)) (hx : π[i]? = some (.vr .own (eL e) xs) := by rfl) : TS π (mSeq (mUpd uApp msk i [m]) rest) π' kr er (apB xs x q) := ts_appE (t := pr x) i h.te n hx
theorem app_hg {xs : List α} {k : Kd} : ∀ (x : α) (d : D) (ds : List D), Rp k e x d → fzs ds = xs.map e.f → ∀ ys, apO xs x = some ys → (∃ ds', uApp ds [d] = some ds' ∧ fzs ds' = ys.map e.f) ∧ (∃ ds', uApp ds [fz d] = some ds' ∧ fzs ds' = ys.map e.f) := fun x d ds r q1 ys hk => by
  unfold apO at hk
  split at hk <;> simp at hk
  subst hk
  have := rp_len q1
  exact ⟨⟨ds ++ [d], by unfold uApp; simp only []; rw [if_pos (by omega)], fzs_app q1 r.1⟩, ⟨ds ++ [fz d], by unfold uApp; simp only []; rw [if_pos (by omega)], fzs_app q1 (by rw [fz_fz]; exact r.1)⟩⟩
theorem ts_appAE {xs : List α} {q : List α → B τ ρ} (i : Nat) (h : TE (restrP msk π) m k e t) (n : ∀ ys, TS ((frzP msk π).set i (.vr .top (eL e) ys)) rest π' kr er (q ys)) (hx : (frzP msk π)[i]? = some (.vr .top (eL e) xs) := by rfl) : TS π (mSeq (mUpd uApp msk i [m]) rest) π' kr er (eb t fun x => apB xs x q) := by
  refine ts_updA (q := fun _ => badB) (k' := apO xs) i (fun _ h => h) hx h app_hg _ (fun x ys hk => ?_) (fun x hk => ?_)
  · unfold apO at hk
    split at hk <;> simp at hk
    subst hk
    intro σ s M
    have := n (xs ++ [x]) σ s M
    unfold apB; rw [if_pos ‹_›]; exact this
  · unfold apO at hk
    split at hk <;> simp at hk
    funext s
    unfold apB; rw [if_neg ‹_›]; rfl
theorem ts_appAP {xs : List α} {q : List α → B τ ρ} (i : Nat) (h : TP (restrP msk π) m k e x) (n : ∀ ys, TS ((frzP msk π).set i (.vr .top (eL e) ys)) rest π' kr er (q ys)) (hx : (frzP msk π)[i]? = some (.vr .top (eL e) xs) := by rfl) : TS π (mSeq (mUpd uApp msk i [m]) rest) π' kr er (apB xs x q) := ts_appAE (t := pr x) i h.te n hx
theorem noFs_set {ds : List D} {d : D} {j : Nat} (h : noFs ds = true) (h' : noF d = true) : noFs (ds.set j d) = true := by
  rw [noFs_iff] at h ⊢
  intro x hx
  rcases List.mem_or_eq_of_mem_set hx with z | z
  · exact h x z
  · rw [z]; exact h'
end
/-! functions -/
section
variable {τ ρ : Type} {k : Kd} {er : Ec ρ} {π' : τ → List Pt} {body : MS}
def nosP (n : Nat) : List Pt := List.replicate n .no
theorem mt_nos : ∀ n : Nat, Mt (nosP n) (List.replicate n none)
  | 0 => trivial
  | n + 1 => ⟨trivial, mt_nos n⟩
theorem mt_cons {α : Type} {k : Kd} {e : Ec α} {x : α} {d : D} {π : List Pt} {σ : Env} (r : Rp k e x d) (h : Mt π σ) : Mt (.vr k e x :: π) (some d :: σ) := ⟨⟨d, rfl, r⟩, h⟩
theorem fn_ok {b : B τ ρ} {π : List Pt} {np ns : Nat} {ds : List D} {s : Sto} (hl : ds.length = np) (M : Mt π (ds.map some ++ List.replicate (ns - np) none)) (h : TS π body π' k er b) : Rf k er (fnT b s) (mkFn np ns body ds s) := by
  have := h _ s M
  unfold fnT mkFn
  rw [if_pos hl]
  cases z : b s with
  | nx v s1 => trivial
  | rt r s1 => rw [z] at this; obtain ⟨d, e1, r⟩ := this; rw [e1]; exact ⟨d, rfl, r⟩
  | ex x s1 => rw [z] at this; obtain ⟨σ1, e1⟩ := this; rw [e1]; exact rfl
  | bk v s1 => trivial
  | ct v s1 => trivial
  | bad => trivial
theorem fnU_ok {b : B τ Unit} {π : List Pt} {np ns : Nat} {ds : List D} {s : Sto} (hl : ds.length = np) (M : Mt π (ds.map some ++ List.replicate (ns - np) none)) (h : TS π body π' .pl eN b) : Rf .pl eN (fnU b s) (mkFn np ns body ds s) := by
  have := h _ s M
  unfold fnU mkFn
  rw [if_pos hl]
  cases z : b s with
  | nx v s1 => rw [z] at this; obtain ⟨d, e1, r⟩ := this; rw [e1]; exact ⟨.non, rfl, rfl, rfl⟩
  | rt r s1 => rw [z] at this; obtain ⟨d, e1, r⟩ := this; rw [e1]; exact ⟨d, rfl, r⟩
  | ex x s1 => rw [z] at this; obtain ⟨σ1, e1⟩ := this; rw [e1]; exact rfl
  | bk v s1 => trivial
  | ct v s1 => trivial
  | bad => trivial
end
end Zm
set_option linter.all false
set_option autoImplicit false
set_option maxRecDepth 100000
/-! TL4: operations. -/
namespace Zm
open PySem
/-! ### pure arguments -/
def TPA {α : Type} (π : List Pt) (ms : List M) (K : Sto → List D → Option D) (k : Kd) (e : Ec α) (x : α) : Prop := ∀ σ s, Mt π σ → ∃ ds d, mArgs ms σ s = .ok ds s ∧ K s ds = some d ∧ Rp k e x d
section
variable {α β γ : Type} {π : List Pt} {m : M} {ms : List M} {k ka kb kc : Kd} {e : Ec α} {ea : Ec β} {eb : Ec γ} {x : α} {g : Sto → List D → Option D} {d d' : D} {ds : List D}
theorem pa_nil {K : Sto → List D → Option D} (h : ∀ s, ∃ d, K s [] = some d ∧ Rp k e x d) : TPA π [] K k e x := fun σ s M => let ⟨d, h1, h2⟩ := h s; ⟨[], d, rfl, h1, h2⟩
theorem pa {K : Sto → List D → Option D} {y : β} (h : TP π m ka ea y) (q : ∀ d, Rp ka ea y d → TPA π ms (fun s ds => K s (d :: ds)) k e x) : TPA π (m :: ms) K k e x := fun σ s M => by
  obtain ⟨d, e1, r1⟩ := h σ s M
  obtain ⟨ds, z, e2, e3, r⟩ := q d r1 σ s M
  exact ⟨d :: ds, z, by simp only [mArgs, e1, e2, R.bind_ok], e3, r⟩
theorem tp_op (h : TPA π ms g k e x) : TP π (mOp g ms) k e x := fun σ s M => by
  obtain ⟨ds, z, e2, e3, r⟩ := h σ s M
  exact ⟨z, by simp [e2, e3], r⟩
/-! ### numbers -/
theorem rpI (i : Int) : Rp .pl eI i (.int i) := ⟨rfl, rfl⟩
theorem rpB (i : Bool) : Rp .pl eB i (.bl i) := ⟨rfl, rfl⟩
theorem x_addI {x y : Int} (h : Rp ka eI x d) (h' : Rp kb eI y d') : OkP gAdd [d, d'] .pl eI (x + y) := fun s => ⟨_, by rw [h.int, h'.int]; rfl, rpI _⟩
theorem x_sub {x y : Int} (h : Rp ka eI x d) (h' : Rp kb eI y d') : OkP gSub [d, d'] .pl eI (x - y) := fun s => ⟨_, by rw [h.int, h'.int]; rfl, rpI _⟩
theorem x_neg {x : Int} (h : Rp ka eI x d) : OkP gNeg [d] .pl eI (-x) := fun s => ⟨_, by rw [h.int]; rfl, rpI _⟩
theorem x_max2 {x y : Int} (h : Rp ka eI x d) (h' : Rp kb eI y d') : OkP gMax2 [d, d'] .pl eI (max x y) := fun s => ⟨_, by rw [h.int, h'.int]; rfl, by
  have : (if y > x then y else x) = max x y := by omega
  rw [this]; exact rpI _⟩
theorem x_min2 {x y : Int} (h : Rp ka eI x d) (h' : Rp kb eI y d') : OkP gMin2 [d, d'] .pl eI (min x y) := fun s => ⟨_, by rw [h.int, h'.int]; rfl, by
  have : (if y < x then y else x) = min x y := by omega
  rw [this]; exact rpI _⟩
theorem x_lt {x y : Int} (h : Rp ka eI x d) (h' : Rp kb eI y d') : OkP gLt [d, d'] .pl eB (decide (x < y)) := fun s => ⟨_, by rw [h.int, h'.int]; rfl, rpB _⟩
theorem x_gt {x y : Int} (h : Rp ka eI x d) (h' : Rp kb eI y d') : OkP gGt [d, d'] .pl eB (decide (y < x)) := fun s => ⟨_, by rw [h.int, h'.int]; rfl, rpB _⟩
@[irreducible] def mulT (x y : Int) : G Int := fun s => if sm x = true ∧ sm y = true then .ok (x * y) s else .bad
@[irreducible] def divT (x y : Int) : G Int := fun s => if 0 < y ∧ sm y = true then .ok (x / y) s else .bad
@[irreducible] def modT (x y : Int) : G Int := fun s => if 0 < y then .ok (x % y) s else .bad
@[irreducible] def powT (x y : Int) : G Int := fun s => if 0 ≤ y ∧ y ≤ 1000 ∧ sm x = true then .ok (x ^ y.toNat) s else .bad
/-- an operation that may fail -/
def OkE {α : Type} (g : Sto → List D → Option D) (ds : List D) (k : Kd) (e : Ec α) (t : G α) : Prop := ∀ s, Rf k e (t s) (R.of (g s ds) s)
theorem x_mul {x y : Int} (h : Rp ka eI x d) (h' : Rp kb eI y d') : OkE gMul [d, d'] .pl eI (mulT x y) := fun s => by
  rw [h.int, h'.int]; simp only [mulT, gMul]
  split
  · exact ⟨_, rfl, rpI _⟩
  · trivial
theorem x_pow {x y : Int} (h : Rp ka eI x d) (h' : Rp kb eI y d') : OkE gPow [d, d'] .pl eI (powT x y) := fun s => by
  rw [h.int, h'.int]; simp only [powT, gPow]
  split
  · exact ⟨_, rfl, rpI _⟩
  · trivial
/-! ### displays -/
inductive RpL {α : Type} (k : Kd) (e : Ec α) : List α → List D → Prop
  | nil : RpL k e [] []
  | cons {x : α} {xs : List α} {d : D} {ds : List D} : Rp k e x d → RpL k e xs ds → RpL k e (x :: xs) (d :: ds)
theorem RpL.fzs {xs : List α} (h : RpL k e xs ds) : fzs ds = xs.map e.f := by
  induction h with
  | nil => rfl
  | cons r _ ih => rw [Zm.fzs, ih, r.1]; rfl
theorem RpL.noF {xs : List α} (h : RpL .own e xs ds) : noFs ds = true := by
  induction h with
  | nil => rfl
  | cons r _ ih => simp [ih, r.2]
theorem RpL.plO {xs : List α} (h : RpL .pl e xs ds) : RpL .own e xs ds := by
  induction h with
  | nil => exact .nil
  | cons r _ ih => exact .cons r.plO ih
theorem RpL.len {xs : List α} (h : RpL k e xs ds) : ds.length = xs.length := rp_len h.fzs
theorem le_sz {n : Nat} (h : Nat.ble n 1000 = true) : n ≤ sizeLine := Nat.le_trans (Nat.le_of_ble_eq_true h) (by decide)
theorem x_lstO {xs : List α} (h : RpL .own e xs ds) (hl : Nat.ble ds.length 1000 = true := by rfl) : OkP gLst ds .own (eL e) xs := fun s => ⟨_, by unfold Zm.gLst; rw [if_pos (le_sz hl)], rp_own h.fzs h.noF⟩
theorem x_lstP {xs : List α} (h : RpL .pl e xs ds) (hl : Nat.ble ds.length 1000 = true := by rfl) : OkP gLst ds .own (eL e) xs := x_lstO h.plO hl
theorem rp_pair {y : β} (h : Rp ka e x d) (h' : Rp kb ea y d') : Rp .any (eP e ea) (x, y) (.tup [d, d']) := ⟨by simp [eP, h.1, h'.1], trivial⟩
theorem rp_pairO {y : β} (h : Rp .own e x d) (h' : Rp .own ea y d') : Rp .own (eP e ea) (x, y) (.tup [d, d']) := ⟨by simp [eP, h.1, h'.1], by simp [h.2, h'.2]⟩
theorem x_pair {y : β} (h : Rp ka e x d) (h' : Rp kb ea y d') : OkP Zm.gTup [d, d'] .any (eP e ea) (x, y) := fun s => ⟨_, by unfold Zm.gTup; rw [if_pos (by show 2 ≤ sizeLine; decide)], rp_pair h h'⟩
theorem x_pairO {y : β} (h : Rp .own e x d) (h' : Rp .own ea y d') : OkP Zm.gTup [d, d'] .own (eP e ea) (x, y) := fun s => ⟨_, by unfold Zm.gTup; rw [if_pos (by show 2 ≤ sizeLine; decide)], rp_pairO h h'⟩
/-! ### rows: length, places, slices, put together -/
theorem x_lenL {xs : List α} (h : Rp ka (eL e) xs d) : OkP gLen [d] .pl eI (xs.length : Int) := fun s => by
  obtain ⟨o, ds, rfl, q⟩ := h.lst
  exact ⟨_, rfl, by rw [rp_len q]; exact rpI _⟩
theorem x_lenT {xs : List α} (h : Rp ka (eT e) xs d) : OkP gLen [d] .pl eI (xs.length : Int) := fun s => by
  obtain ⟨ds, rfl, q⟩ := h.tup
  exact ⟨_, rfl, by rw [rp_len q]; exact rpI _⟩
theorem x_lenR {xs : List Int} (h : Rp ka eRo xs d) : OkP gLen [d] .pl eI (xs.length : Int) := fun s => by
  rw [h.ro]; exact ⟨_, rfl, rpI _⟩
@[irreducible] def ixT {α : Type} (xs : List α) (i : Int) : G α := fun s => match L2.atI xs i with
  | some x => .ok x s
  | none => .bad
def Kd.el : Kd → Kd
  | .top => .any
  | k => k
theorem atI_fzs {xs : List α} {ds : List D} (q : fzs ds = xs.map e.f) {i : Int} {x : α} (h : L2.atI xs i = some x) : ∃ d, L2.atI ds i = some d ∧ fz d = e.f x ∧ d ∈ ds := by
  have hl := rp_len q
  unfold L2.atI at h ⊢
  rw [hl]
  cases z : L2.ixN xs.length i with
  | none => rw [z] at h; cases h
  | some j =>
    rw [z] at h
    have h : xs[j]? = some x := h
    have hj := (List.getElem?_eq_some_iff.mp h).1
    refine ⟨ds[j]'(by omega), List.getElem?_eq_getElem (by omega), ?_, List.getElem_mem _⟩
    have := congrArg (fun l => l[j]?) q
    simp only [fzs_eq, List.getElem?_map, h, Option.map_some] at this
    rw [List.getElem?_eq_getElem (by omega)] at this
    simpa using this
theorem plains_mem {ds : List D} {d : D} (h : plains ds = true) (hd : d ∈ ds) : plain d = true := plains_iff.mp h d hd
theorem noFs_mem {ds : List D} {d : D} (h : noFs ds = true) (hd : d ∈ ds) : noF d = true := noFs_iff.mp h d hd
theorem mem_fro {xs : List α} {ds : List D} {d : D} (q : fzs ds = ds) (hd : d ∈ ds) : fz d = d := by
  rw [fzs_eq] at q
  obtain ⟨j, hj, rfl⟩ := List.getElem_of_mem hd
  have := congrArg (fun l => l[j]?) q
  simp only [List.getElem?_map, List.getElem?_eq_getElem hj] at this
  simpa using this
theorem rp_elL : ∀ {k : Kd} {xs : List α} {d : D} {i : Int} {x : α}, Rp k (eL e) xs d → L2.atI xs i = some x → ∀ s, ∃ z, gIx s [d, .int i] = some z ∧ Rp k.el e x z := fun {k xs d i x} h hx s => by
  obtain ⟨o, ds, rfl, q⟩ := h.lst
  obtain ⟨z, h1, h2, h3⟩ := atI_fzs q hx
  refine ⟨z, h1, h2, ?_⟩
  cases k with
  | any => trivial
  | top => trivial
  | own => have := h.2; simp only [noF, Bool.and_eq_true] at this; exact noFs_mem this.2 h3
  | fro =>
    have : D.lst o ds = .lst false (xs.map e.f) := h.2
    simp only [D.lst.injEq] at this
    have q2 : fzs ds = ds := by rw [q]; exact this.2.symm
    show z = e.f x
    rw [← h2, mem_fro (xs := xs) q2 h3]
  | pl => have := h.2; simp at this
theorem rp_elT : ∀ {k : Kd} {xs : List α} {d : D} {i : Int} {x : α}, Rp k (eT e) xs d → L2.atI xs i = some x → ∀ s, ∃ z, gIx s [d, .int i] = some z ∧ Rp k.el e x z := fun {k xs d i x} h hx s => by
  obtain ⟨ds, rfl, q⟩ := h.tup
  obtain ⟨z, h1, h2, h3⟩ := atI_fzs q hx
  refine ⟨z, h1, h2, ?_⟩
  cases k with
  | any => trivial
  | top => trivial
  | own => have := h.2; simp only [noF] at this; exact noFs_mem this h3
  | fro =>
    have : D.tup ds = .tup (xs.map e.f) := h.2
    simp only [D.tup.injEq] at this
    have q2 : fzs ds = ds := by rw [q]; exact this.symm
    show z = e.f x
    rw [← h2, mem_fro (xs := xs) q2 h3]
  | pl => have := h.2; simp only [plain] at this; exact plains_mem this h3
theorem x_ixL {xs : List α} {i : Int} (h : Rp ka (eL e) xs d) (h' : Rp kb eI i d') : OkE gIx [d, d'] ka.el e (ixT xs i) := fun s => by
  unfold ixT
  cases z : L2.atI xs i with
  | none => trivial
  | some x => obtain ⟨w, h1, h2⟩ := rp_elL h z s; rw [h'.int, h1]; exact ⟨w, rfl, h2⟩
theorem x_ixT {xs : List α} {i : Int} (h : Rp ka (eT e) xs d) (h' : Rp kb eI i d') : OkE gIx [d, d'] ka.el e (ixT xs i) := fun s => by
  unfold ixT
  cases z : L2.atI xs i with
  | none => trivial
  | some x => obtain ⟨w, h1, h2⟩ := rp_elT h z s; rw [h'.int, h1]; exact ⟨w, rfl, h2⟩
theorem x_ixR {xs : List Int} {i : Int} (h : Rp ka eRo xs d) (h' : Rp kb eI i d') : OkE gIx [d, d'] .pl eI (ixT xs i) := fun s => by
  unfold ixT
  cases z : L2.atI xs i with
  | none => trivial
  | some x => rw [h.ro, h'.int]; simp only [gIx, z]; exact ⟨_, rfl, rpI _⟩
theorem x_p1 {p : α × β} (h : Rp ka (eP e ea) p d) (h' : Rp kb eI 1 d') : OkP gIx [d, d'] .any ea p.2 := fun s => by
  obtain ⟨x, y, rfl, h1, h2⟩ := h.pair
  exact ⟨y, by rw [h'.int]; rfl, h2, trivial⟩
theorem cut_map {α β : Type} (f : α → β) (xs : List α) (lo hi : Option Int) : cutD (xs.map f) lo hi = (cutD xs lo hi).map f := by
  unfold cutD; simp [List.map_take, List.map_drop]
theorem cut_fzs {xs : List α} (q : fzs ds = xs.map e.f) (lo hi : Option Int) : fzs (cutD ds lo hi) = (cutD xs lo hi).map e.f := by
  rw [fzs_eq] at q ⊢; rw [← cut_map, q, cut_map]
theorem cut_noF (h : noFs ds = true) (lo hi : Option Int) : noFs (cutD ds lo hi) = true := by
  rw [noFs_iff] at h ⊢
  intro x hx
  exact h x (List.mem_of_mem_drop (List.mem_of_mem_take hx))
def Kd.sl : Kd → Kd
  | .own => .own
  | _ => .top
theorem rp_sl {xs : List α} (h : Rp ka (eL e) xs d) (lo hi : Option Int) : ∃ z, gSlW d lo hi = some z ∧ Rp ka.sl (eL e) (cutD xs lo hi) z := by
  obtain ⟨o, ds, rfl, q⟩ := h.lst
  refine ⟨_, rfl, ?_⟩
  cases ka with
  | own => have := h.2; simp only [noF, Bool.and_eq_true] at this; exact rp_own (cut_fzs q lo hi) (cut_noF this.2 lo hi)
  | _ => exact rp_top (cut_fzs q lo hi)
theorem rp_slP [Pn e] {xs : List α} (h : Rp ka (eL e) xs d) (lo hi : Option Int) : ∃ z, gSlW d lo hi = some z ∧ Rp .own (eL e) (cutD xs lo hi) z := by
  obtain ⟨o, ds, rfl, q⟩ := h.lst
  exact ⟨_, rfl, rp_own (cut_fzs q lo hi) (noFs_pn (cut_fzs q lo hi))⟩
theorem x_sl10L {xs : List α} {i : Int} (h : Rp ka (eL e) xs d) (h' : Rp kb eI i d') : OkP gSl10 [d, d'] ka.sl (eL e) (cutD xs (some i) none) := fun s => by rw [h'.int]; exact rp_sl h _ _
theorem x_sl01P [Pn e] {xs : List α} {i : Int} (h : Rp ka (eL e) xs d) (h' : Rp kb eI i d') : OkP gSl01 [d, d'] .own (eL e) (cutD xs none (some i)) := fun s => by rw [h'.int]; exact rp_slP h _ _
/-- one behind the other -/
@[irreducible] def catT {α : Type} (xs ys : List α) : G (List α) := fun s => if xs.length + ys.length ≤ sizeLine then .ok (xs ++ ys) s else .bad
theorem fzs_cat {xs ys : List α} {ds es : List D} (q : fzs ds = xs.map e.f) (q' : fzs es = ys.map e.f) : fzs (ds ++ es) = (xs ++ ys).map e.f := by
  rw [fzs_eq] at q q' ⊢; rw [List.map_append, q, q', List.map_append]
theorem x_catP [Pn e] {xs ys : List α} (h : Rp ka (eL e) xs d) (h' : Rp kb (eL e) ys d') : OkE gAdd [d, d'] .own (eL e) (catT xs ys) := fun s => by
  obtain ⟨o, ds, rfl, q⟩ := h.lst
  obtain ⟨o', ds', rfl, q'⟩ := h'.lst
  have h1 := rp_len q
  have h2 := rp_len q'
  unfold catT
  split
  · exact ⟨.lst true (ds ++ ds'), by simp only [gAdd]; rw [if_pos (by omega)]; rfl, rp_own (fzs_cat q q') (noFs_pn (fzs_cat q q'))⟩
  · trivial
@[irreducible] def catS (x y : Str) : G Str := fun s => if x.length + y.length ≤ sizeLine then .ok (x ++ y) s else .bad
theorem x_catS {x y : Str} (h : Rp ka eS x d) (h' : Rp kb eS y d') : OkE gAdd [d, d'] .pl eS (catS x y) := fun s => by
  rw [h.str, h'.str]; simp only [catS, gAdd]
  split
  · exact ⟨_, rfl, rfl, rfl⟩
  · trivial
/-- [x] * k, (..) * k -/
@[irreducible] def repT {α : Type} (x : α) (k : Int) : G (List α) := fun s => if 0 ≤ k ∧ k ≤ 1000 then .ok (List.replicate k.toNat x) s else .bad
@[irreducible] def repsT {α : Type} (xs : List α) (k : Int) : G (List α) := fun s => if k = 1 then .ok xs s else if xs ≠ [] ∧ 2 ≤ k ∧ k ≤ 1000 ∧ xs.length ≤ 1000 then .ok (List.replicate k.toNat xs).flatten s else .bad
theorem x_rep [Pn e] {x : α} {j : Int} (h : Rp ka (eL e) [x] d) (h' : Rp kb eI j d') : OkE gMul [d, d'] .own (eL e) (repT x j) := fun s => by
  obtain ⟨o, ds, rfl, q⟩ := h.lst
  have hl := rp_len q
  match ds, hl, q with
  | [z], _, q =>
    have q : fz z = e.f x := by simpa using q
    have pz : plain z = true := fz_plain _ (by rw [q]; exact Pn.p x)
    rw [h'.int]
    unfold repT
    simp only [gMul]
    split
    · rename_i hj
      rw [if_pos ⟨pz, hj⟩]
      have : fzs (List.replicate j.toNat z) = (List.replicate j.toNat x).map e.f := by rw [fzs_eq]; simp [q]
      exact ⟨_, rfl, rp_own this (noFs_pn this)⟩
    · trivial
  | [], hl, _ => simp at hl
  | _ :: _ :: _, hl, _ => simp at hl
theorem x_reps [Pn e] {xs : List α} {j : Int} (h : Rp ka (eT e) xs d) (h' : Rp kb eI j d') : OkE gMulT [d, d'] .any (eT e) (repsT xs j) := fun s => by
  obtain ⟨ds, rfl, q⟩ := h.tup
  have hl := rp_len q
  have pz : plains ds = true := fzs_plains _ (by rw [q, plains_iff]; intro d hd; obtain ⟨x, _, rfl⟩ := List.mem_map.mp hd; exact Pn.p x)
  rw [h'.int]
  unfold repsT
  simp only [gMulT]
  split
  · exact ⟨_, rfl, rp_tup q⟩
  · simp only [gMul]
    split
    · rename_i hj
      have nn : ds ≠ [] := fun z => by subst z; apply hj.1; exact List.eq_nil_of_length_eq_zero hl.symm
      rw [if_pos ⟨pz, nn, hj.2.1, hj.2.2.1, by omega⟩]
      refine ⟨_, rfl, rp_tup ?_⟩
      rw [fzs_eq] at q ⊢
      simp [List.map_flatten, q]
    · trivial
theorem x_tupL {xs : List α} (h : Rp ka (eL e) xs d) : OkP gTuple [d] .any (eT e) xs := fun s => by
  obtain ⟨o, ds, rfl, q⟩ := h.lst
  exact ⟨_, rfl, rp_tup q⟩
@[irreducible] def maxT (xs : List Int) : G Int := fun s => match xs with
  | x :: xs => .ok (xs.foldl max x) s
  | [] => .bad
@[irreducible] def minT (xs : List Int) : G Int := fun s => match xs with
  | x :: xs => .ok (xs.foldl min x) s
  | [] => .bad
/-! ### None -/
theorem isNon_fz (d : D) : isNon (fz d) = isNon d := by cases d <;> rfl
class NotN {α : Type} (e : Ec α) : Prop where
  nn : ∀ x, isNon (e.f x) = false
instance : NotN eI := ⟨fun _ => rfl⟩
instance : NotN eB := ⟨fun _ => rfl⟩
instance : NotN eS := ⟨fun _ => rfl⟩
instance : NotN eRo := ⟨fun _ => rfl⟩
instance : NotN (eL e) := ⟨fun _ => rfl⟩
instance : NotN (eT e) := ⟨fun _ => rfl⟩
instance : NotN (eP e ea) := ⟨fun _ => rfl⟩
instance : NotN (eP3 e ea eb) := ⟨fun _ => rfl⟩
theorem x_notO [NotN e] {o : Option α} (h : Rp ka (eO e) o d) : OkP gNotN [d, .non] .pl eB o.isSome := fun s => ⟨_, rfl, by
  rw [← isNon_fz, h.1]
  cases o with
  | none => exact rpB _
  | some x => show Rp .pl eB true (.bl (!isNon (e.f x))); rw [NotN.nn]; exact rpB _⟩
/-- what is not none -/
@[irreducible] def getT {α : Type} (o : Option α) : G α := fun s => match o with
  | some x => .ok x s
  | none => .bad
/-! ### alike -/
class Cm {α : Type} (e : Ec α) where
  py : α → PyData
  n : Nat
  hp : ∀ x, pd (e.f x) = some (py x)
  lay : ∀ x, (py x).canLay0 = true
  dep : ∀ x, (py x).depth ≤ n
  inj : ∀ x y, PyData.eqv (py x) (py y) = true → x = y
instance : Cm eI := ⟨.int, 1, fun _ => rfl, fun _ => rfl, fun _ => by simp [PyData.depth], fun x y h => by simpa [PyData.eqv] using h⟩
instance : Cm eB := ⟨.bool, 1, fun _ => rfl, fun _ => rfl, fun _ => by simp [PyData.depth], fun x y h => by simpa [PyData.eqv] using h⟩
theorem lays_map {f : α → PyData} (h : ∀ x, (f x).canLay0 = true) : ∀ xs : List α, PyData.canLayAll0 (xs.map f) = true
  | [] => by simp [PyData.canLayAll0]
  | x :: xs => by simp [PyData.canLayAll0, h x, lays_map h xs]
theorem eqvs_map {f : α → PyData} (h : ∀ x y, PyData.eqv (f x) (f y) = true → x = y) : ∀ xs ys : List α, PyData.eqvAll (xs.map f) (ys.map f) = true → xs = ys
  | [], [], _ => rfl
  | x :: xs, y :: ys, e => by
    simp only [List.map_cons, PyData.eqvAll, Bool.and_eq_true] at e
    rw [h x y e.1, eqvs_map h xs ys e.2]
  | [], _ :: _, e => by simp [PyData.eqvAll] at e
  | _ :: _, [], e => by simp [PyData.eqvAll] at e
instance [c : Cm e] : Cm (eL e) := ⟨fun xs => .list (xs.map c.py), c.n + 1, fun xs => by
    show (pds (xs.map e.f)).map _ = _
    rw [pds_map c.hp]; rfl, fun xs => by simp only [PyData.canLay0]; exact lays_map c.lay xs, fun xs => by rw [PyData.depth]; have := depth_map c.dep xs; omega,
  fun xs ys h => by simp only [PyData.eqv] at h; exact eqvs_map c.inj xs ys h⟩
instance [c : Cm e] : Cm (eT e) := ⟨fun xs => .tuple (xs.map c.py), c.n + 1, fun xs => by
    show (pds (xs.map e.f)).map _ = _
    rw [pds_map c.hp]; rfl, fun xs => by simp only [PyData.canLay0]; exact lays_map c.lay xs, fun xs => by rw [PyData.depth]; have := depth_map c.dep xs; omega,
  fun xs ys h => by simp only [PyData.eqv] at h; exact eqvs_map c.inj xs ys h⟩
instance [c : Cm e] [c' : Cm ea] : Cm (eP e ea) := ⟨fun p => .tuple [c.py p.1, c'.py p.2], max c.n c'.n + 1, fun p => by
    show (pds [e.f p.1, ea.f p.2]).map _ = _
    simp [pds, c.hp, c'.hp], fun p => by simp [PyData.canLay0, PyData.canLayAll0, c.lay, c'.lay], fun p => by
    have := c.dep p.1
    have := c'.dep p.2
    simp only [PyData.depth, PyData.depthAll]; omega,
  fun p q h => by
    simp only [PyData.eqv, PyData.eqvAll, Bool.and_eq_true] at h
    exact Prod.ext (c.inj _ _ h.1) (c'.inj _ _ h.2.1)⟩
theorem pd_non {d : D} (h : pd d = some .none) : isNon d = true := by
  cases d <;> simp [pd] at h <;> first | rfl | (obtain ⟨_, _, h⟩ := h; cases h)
theorem eqv_non {y : PyData} (h : PyData.eqv y .none = true ∨ PyData.eqv .none y = true) : y = .none := by
  cases y <;> simp_all [PyData.eqv]
instance [c : Cm e] [NotN e] : Cm (eO e) := ⟨fun o => match o with
    | none => .none
    | some x => c.py x, max c.n 1, fun o => by cases o with
    | none => rfl
    | some x => exact c.hp x, fun o => by cases o with
    | none => rfl
    | some x => exact c.lay x, fun o => by cases o with
    | none => simp only [PyData.depth]; omega
    | some x => have := c.dep x; show (c.py x).depth ≤ _; omega,
  fun o p h => by
    have key : ∀ x, c.py x ≠ .none := fun x z => by
      have := c.hp x
      rw [z] at this
      have := pd_non this
      rw [NotN.nn] at this; cases this
    cases o with
    | none => cases p with
      | none => rfl
      | some y => have h : PyData.eqv .none (c.py y) = true := h; exact (key y (eqv_non (.inr h))).elim
    | some x => cases p with
      | none => have h : PyData.eqv (c.py x) .none = true := h; exact (key x (eqv_non (.inl h))).elim
      | some y => rw [c.inj x y h]⟩
theorem Cm.sh [c : Cm e] (hn : c.n ≤ 64) (h : Rp k e x d) : shapedD d = some (c.py x) := by
  unfold shapedD
  rw [← pd_fz, h.1, c.hp]
  have : SeqAt.shaped (c.py x) = true := Bool.and_eq_true_iff.mpr ⟨c.lay x, decide_eq_true (Nat.le_trans (c.dep x) hn)⟩
  simp only [this, if_true]
theorem Cm.eqv [DecidableEq α] [c : Cm e] (x y : α) : PyData.eqv (c.py x) (c.py y) = decide (x = y) := by
  by_cases h : x = y
  · subst h; simp [SeqAt.eqv_refl _ (c.lay x)]
  · rw [decide_eq_false h]
    cases z : PyData.eqv (c.py x) (c.py y) with
    | false => rfl
    | true => exact (h (c.inj x y z)).elim
theorem x_eq [DecidableEq α] [c : Cm e] {y : α} (h : Rp ka e x d) (h' : Rp kb e y d') (hn : c.n ≤ 64 := by decide) : OkP gEq [d, d'] .pl eB (decide (x = y)) := fun s =>
  ⟨_, by simp only [gEq, Cm.sh hn h, Cm.sh hn h', Cm.eqv], rpB _⟩
/-- of whatever kinds -/
@[irreducible] def eqX (a b : D) : G Bool := fun s => match gEq s [a, b] with
  | some (.bl z) => .ok z s
  | _ => .bad
@[irreducible] def neX (a b : D) : G Bool := fun s => match gNe s [a, b] with
  | some (.bl z) => .ok z s
  | _ => .bad
theorem sh_fz (d : D) : shapedD (fz d) = shapedD d := by unfold shapedD; rw [pd_fz]
theorem x_neX {y : β} (h : Rp ka e x d) (h' : Rp kb ea y d') : OkE gNe [d, d'] .pl eB (neX (e.f x) (ea.f y)) := fun s => by
  have : gNe s [e.f x, ea.f y] = gNe s [d, d'] := by rw [← h.1, ← h'.1]; simp only [gNe, sh_fz]
  unfold neX
  rw [this]
  cases gNe s [d, d'] with
  | none => trivial
  | some z => cases z with
    | bl b => exact ⟨_, rfl, rpB _⟩
    | _ => trivial
/-! ### writing -/
@[irreducible] def reprX (a : D) : G Str := fun s => match gRepr s [a] with
  | some (.str z) => .ok z s
  | _ => .bad
theorem x_repr (h : Rp ka e x d) : OkE gRepr [d] .pl eS (reprX (e.f x)) := fun s => by
  have : gRepr s [e.f x] = gRepr s [d] := by rw [← h.1]; simp only [gRepr, pd_fz]
  unfold reprX
  rw [this]
  cases gRepr s [d] with
  | none => trivial
  | some z => cases z with
    | str b => exact ⟨_, rfl, rfl, rfl⟩
    | _ => trivial
@[irreducible] def strT (i : Int) : G Str := fun s => if sm i = true then .ok (toString i) s else .bad
theorem x_str {x : Int} (h : Rp ka eI x d) : OkE gStr [d] .pl eS (strT x) := fun s => by
  rw [h.int]; simp only [strT, gStr]
  split
  · exact ⟨_, rfl, rfl, rfl⟩
  · trivial
end
end Zm
namespace Zm
section
variable {α β : Type} {π : List Pt} {m : M} {k : Kd} {e : Ec α} {o : Option α} {t : G (Option α)}
@[simp] theorem getT_some {x : α} {s : Sto} : getT (some x) s = .ok x s := by unfold getT; rfl
@[simp] theorem getT_none {s : Sto} : getT (none : Option α) s = .bad := by unfold getT; rfl
theorem rp_get : ∀ {k : Kd} {x : α} {d : D}, Rp k (eO e) (some x) d → Rp k e x d
  | .any, _, _, h => ⟨h.1, trivial⟩
  | .top, _, _, h => ⟨h.1, h.2⟩
  | .own, _, _, h => ⟨h.1, h.2⟩
  | .fro, _, _, h => ⟨h.1, h.2⟩
  | .pl, _, _, h => ⟨h.1, h.2⟩
theorem te_get (h : TP π m k (eO e) o) : TE π m k e (getT o) := fun σ s M => by
  obtain ⟨d, h1, r⟩ := h σ s M
  cases o with
  | none => rw [getT_none]; trivial
  | some x => rw [getT_some]; exact ⟨d, h1, rp_get r⟩
theorem TP.lst {e : Ec β} {x : List β} (h : TP π m .own (eL e) x) : TP π m .top (eL e) x := fun σ s M => let ⟨d, q, r⟩ := h σ s M; ⟨d, q, r.ownT⟩
end
theorem at_ {τ ρ : Type} (π : List Pt) {π0 : List Pt} {a : MS} {π' : τ → List Pt} {kr : Kd} {er : Ec ρ} {tr : B τ ρ} (h : TS π a π' kr er tr) (e : π0 = π := by rfl) : TS π0 a π' kr er tr := e ▸ h
theorem wk_nos : ∀ {π : List Pt}, Wk π (nosP π.length)
  | [] => wk_nil
  | _ :: _ => wk_no wk_nos
theorem ts_end {ρ : Type} {π : List Pt} {kr : Kd} {er : Ec ρ} {n : Nat} (h : π.length = n := by rfl) : TS π mNil (fun _ : Unit => nosP n) kr er (nxB ()) := ts_nil (by subst h; exact wk_nos)
end Zm
namespace Zm
section
variable {α : Type} {π : List Pt} {m : M} {k : Kd} {e : Ec α} {x : α} {t : G α}
theorem rp_xf {d : D} (h : Rp .fro e x d) : Rp .fro eX (e.f x) d := ⟨by show _ = fz (e.f x); rw [e.h]; exact h.1, by show d = fz (e.f x); rw [e.h]; exact h.2⟩
theorem rp_xp {d : D} (h : Rp .pl e x d) : Rp .fro eX (e.f x) d := rp_xf ⟨h.1, h.plE⟩
theorem TP.asXf (h : TP π m .fro e x) : TP π m .fro eX (e.f x) := fun σ s M => let ⟨d, q, r⟩ := h σ s M; ⟨d, q, rp_xf r⟩
theorem TP.asXp (h : TP π m .pl e x) : TP π m .fro eX (e.f x) := fun σ s M => let ⟨d, q, r⟩ := h σ s M; ⟨d, q, rp_xp r⟩
theorem TE.asXp (h : TE π m .pl e t) : TE π m .fro eX (bd t fun x => pr (e.f x)) := fun σ s M => by
  have := h σ s M
  unfold bd
  cases q : t s with
  | ok x s1 => rw [q] at this; obtain ⟨d, h1, h2⟩ := this; exact ⟨d, h1, rp_xp h2⟩
  | ex x s1 => rw [q] at this; exact this
  | bad => trivial
theorem TE.asXf (h : TE π m .fro e t) : TE π m .fro eX (bd t fun x => pr (e.f x)) := fun σ s M => by
  have := h σ s M
  unfold bd
  cases q : t s with
  | ok x s1 => rw [q] at this; obtain ⟨d, h1, h2⟩ := this; exact ⟨d, h1, rp_xf h2⟩
  | ex x s1 => rw [q] at this; exact this
  | bad => trivial
end
end Zm
theorem Zm.Rp.froX {x d : Zm.D} (h : Zm.Rp .fro Zm.eX x d) : d = Zm.fz x := h.2
set_option Elab.async false
set_option linter.all false
set_option maxRecDepth 100000
set_option autoImplicit false
/-! TL5: typed: calls by keywords. -/
namespace Zm
open PySem
section
variable {α : Type} {π : List Pt} {ms : List M} {k : Kd} {e : Ec α} {t : G α}
theorem te_callK {f : Fn} {p : List Nat} (h : TA π ms (fun ds => f (sws p ds)) k e t) : TE π (mCallK f p ms) k e t := fun σ s M => h σ s M
end
end Zm
set_option Elab.async false
set_option linter.all false
set_option maxRecDepth 100000
set_option autoImplicit false
/-! TL6: typed: dicts. -/
namespace Zm
open PySem PySem.Spec PyProof.Rows L2
section
variable {κ β : Type} [DecidableEq κ]
def dlook : List (κ × β) → κ → Option β
  | [], _ => none
  | p :: l, k => if p.1 = k then some p.2 else dlook l k
def dput (l : List (κ × β)) (k : κ) (v : β) : List (κ × β) := if (dlook l k).isSome = true then l.map (fun p => if p.1 = k then (p.1, v) else p) else l ++ [(k, v)]
end
def eDic {κ β : Type} (t : Bool) (ek : Ec κ) (ev : Ec β) : Ec (List (κ × β)) := ⟨fun l => .dic false t (l.map fun p => ek.f p.1) (l.map fun p => ev.f p.2), fun _ => rfl⟩
/-- keys that the machine tells apart -/
class Kc {κ : Type} [DecidableEq κ] (t : Bool) (ek : Ec κ) : Prop where
  look : ∀ {β : Type} (ev : Ec β) (l : List (κ × β)) (q : κ), gLook t (l.map fun p => ek.f p.1) (l.map fun p => ev.f p.2) (ek.f q) = some ((dlook l q).map ev.f)
  put : ∀ {β : Type} (ev : Ec β) (l : List (κ × β)) (q : κ) (v : β), gPut t (l.map fun p => ek.f p.1) (l.map fun p => ev.f p.2) (ek.f q) (ev.f v) = some ((dput l q v).map (fun p => ek.f p.1), (dput l q v).map fun p => ev.f p.2)
  pl : Pn ek
section
variable {κ κ' β : Type} [DecidableEq κ] [DecidableEq κ'] {ek : Ec κ} {ev : Ec β} {o : D → Option κ'} {j : κ → κ'}
theorem lookG_l (h1 : ∀ k, o (ek.f k) = some (j k)) (h2 : ∀ a b, j a = j b → a = b) (q : κ) : ∀ l : List (κ × β), lookG o (l.map fun p => ek.f p.1) (l.map fun p => ev.f p.2) (j q) = (dlook l q).map ev.f
  | [] => rfl
  | p :: l => by
    rw [List.map_cons, List.map_cons, lookG, dlook, h1]
    by_cases e : p.1 = q
    · rw [if_pos (by rw [e]), if_pos e]; rfl
    · rw [if_neg (fun z => e (h2 _ _ (Option.some.inj z))), if_neg e]; exact lookG_l h1 h2 q l
theorem replG_l (h1 : ∀ k, o (ek.f k) = some (j k)) (h2 : ∀ a b, j a = j b → a = b) (q : κ) (v : β) : ∀ l : List (κ × β), replG o (l.map fun p => ek.f p.1) (l.map fun p => ev.f p.2) (j q) (ev.f v) = (l.map fun p => if p.1 = q then (p.1, v) else p).map fun p => ev.f p.2
  | [] => rfl
  | p :: l => by
    rw [List.map_cons, List.map_cons, List.map_cons, List.map_cons, replG, h1, replG_l h1 h2 q v l]
    by_cases e : p.1 = q
    · rw [if_pos (by rw [e]), if_pos e]
    · rw [if_neg (fun z => e (h2 _ _ (Option.some.inj z))), if_neg e]
theorem putG_l (h1 : ∀ k, o (ek.f k) = some (j k)) (h2 : ∀ a b, j a = j b → a = b) (q : κ) (v : β) (l : List (κ × β)) : putG o (l.map fun p => ek.f p.1) (l.map fun p => ev.f p.2) (ek.f q) (j q) (ev.f v) = ((dput l q v).map (fun p => ek.f p.1), (dput l q v).map fun p => ev.f p.2) := by
  unfold putG dput
  rw [lookG_l h1 h2, Option.isSome_map]
  by_cases e : (dlook l q).isSome = true
  · rw [if_pos e, if_pos e, replG_l h1 h2]
    congr 1
    rw [List.map_map]
    refine List.map_congr_left fun p _ => ?_
    show ek.f p.1 = ek.f (if p.1 = q then (p.1, v) else p).1
    split <;> rfl
  · rw [if_neg e, if_neg e, List.map_append, List.map_append]; rfl
end
instance : Kc false eI := ⟨fun ev l q => by
    show (dK (.int q)).map (lookG dK _ _) = _
    show some (lookG dK _ _ (Sum.inl q)) = _
    rw [lookG_l (j := fun q : Int => (Sum.inl q : Key)) (fun _ => rfl) (fun a b e => Sum.inl.inj e)],
  fun ev l q v => by
    show some (putG dK _ _ _ (Sum.inl q) _) = _
    rw [putG_l (j := fun q : Int => (Sum.inl q : Key)) (fun _ => rfl) (fun a b e => Sum.inl.inj e)], inferInstance⟩
instance : Kc true (eP eI eI) := ⟨fun ev l q => by
    show some (lookG dKT _ _ [Sum.inl q.1, Sum.inl q.2]) = _
    rw [lookG_l (j := fun q : Int × Int => ([Sum.inl q.1, Sum.inl q.2] : List Key)) (fun _ => rfl) (fun a b e => by simp at e; exact Prod.ext e.1 e.2)],
  fun ev l q v => by
    show some (putG dKT _ _ _ [Sum.inl q.1, Sum.inl q.2] _) = _
    rw [putG_l (j := fun q : Int × Int => ([Sum.inl q.1, Sum.inl q.2] : List Key)) (fun _ => rfl) (fun a b e => by simp at e; exact Prod.ext e.1 e.2)], inferInstance⟩
section
variable {κ β : Type} [DecidableEq κ] {t : Bool} {ek : Ec κ} {ev : Ec β} {k kb : Kd} {d d' : D} {l : List (κ × β)} {q : κ} {v : β}
theorem Rp.dic (h : Rp k (eDic t ek ev) l d) : ∃ o, d = .dic o t (l.map fun p => ek.f p.1) (l.map fun p => ev.f p.2) := by
  have := h.1
  cases d with
  | dic o t' ks vs =>
    simp only [eDic, fz, D.dic.injEq, true_and] at this
    obtain ⟨rfl, rfl, rfl⟩ := this
    exact ⟨o, rfl⟩
  | _ => simp_all [eDic]
variable {π : List Pt} {m ma mb mc : M}
end
section
variable {κ β τ ρ : Type} [DecidableEq κ] {t : Bool} {ek : Ec κ} {ev : Ec β} {k ka kr : Kd} {l : List (κ × β)} {π : List Pt} {π' : τ → List Pt} {er : Ec ρ} {rest : MS} {m mi : M}
end
end Zm
set_option Elab.async false
set_option linter.all false
set_option maxRecDepth 100000
set_option autoImplicit false
/-! TL7: typed: int(..), index, xs[i] op= e, == of dicts. -/
namespace Zm
open PySem PySem.Spec PyProof.Rows L2
section
variable {π : List Pt} {ma mb : M} {k kb : Kd} {d d' : D}
end
section
variable {τ ρ : Type} {k ka kr : Kd} {π : List Pt} {π' : τ → List Pt} {er : Ec ρ} {rest : MS} {m mi : M} {f : Int → Int → Int}
end
end Zm
set_option Elab.async false
set_option linter.all false
set_option maxRecDepth 100000
set_option autoImplicit false
namespace Zm
open PySem
section
variable {α τ ρ : Type} {π : List Pt} {π' : τ → List Pt} {m : M} {rest : MS} {k kr : Kd} {e : Ec α} {er : Ec ρ} {t : G α} {x : α} {msk : List Bool}
theorem ts_unpD {tg : Tg} {q : α → B τ ρ} {π1 : α → List Pt} (h : TE (restrP msk π) m k e t) (hb : ∀ x, TB tg e x (frzP msk π) (π1 x)) (n : ∀ x, TS (π1 x) rest π' kr er (q x)) : TS π (mSeq (mUnpD msk tg m) rest) π' kr er (eb t q) := fun σ s M => by
  have h1 := h σ s M.restr'
  have h2 := h _ s (M.restr (bs := msk))
  unfold Zm.eb
  cases z : t s with
  | bad => trivial
  | ex x s1 => rw [z] at h1; have h1 : m σ s = .ex x s1 := h1; simp only [mSeq, mUnpD, h1, R.to_ex, RS.then_ex]; exact ⟨σ, rfl⟩
  | ok x s1 =>
    rw [z] at h1 h2; obtain ⟨d, h1, r1⟩ := h1; obtain ⟨d2, h2, r2⟩ := h2
    simp only [mSeq, mUnpD, h1, R.to_ok]
    by_cases hn : noF d = true
    · obtain ⟨σ1, e1, m1⟩ := hb x _ (M.frz' (bs := msk))
      rw [if_pos hn]; simp only [r1.1, e1, RS.then_nx]
      exact n x σ1 s1 m1
    · obtain ⟨σ1, e1, m1⟩ := hb x _ (M.frz (bs := msk))
      rw [if_neg hn]
      simp only [mUnp, h2, R.to_ok, r2.1, e1, RS.then_nx]
      exact n x σ1 s1 m1
theorem ts_unpQ {tg : Tg} {q : α → B τ ρ} {π1 : α → List Pt} (h : TE π m .pl e t) (hb : ∀ x, TB tg e x π (π1 x)) (n : ∀ x, TS (π1 x) rest π' kr er (q x)) : TS π (mSeq (mUnpD msk tg m) rest) π' kr er (eb t q) := fun σ s M => by
  have h1 := h σ s M
  unfold Zm.eb
  cases z : t s with
  | bad => trivial
  | ex x s1 => rw [z] at h1; have h1 : m σ s = .ex x s1 := h1; simp only [mSeq, mUnpD, h1, R.to_ex, RS.then_ex]; exact ⟨σ, rfl⟩
  | ok x s1 =>
    rw [z] at h1; obtain ⟨d, h1, r1⟩ := h1
    simp only [mSeq, mUnpD, h1, R.to_ok]
    obtain ⟨σ1, e1, m1⟩ := hb x _ M
    rw [if_pos (plain_noF _ r1.2)]; simp only [r1.1, e1, RS.then_nx]
    exact n x σ1 s1 m1
theorem ts_unpQP {tg : Tg} {q : α → B τ ρ} {π1 : α → List Pt} (h : TP π m .pl e x) (hb : ∀ x, TB tg e x π (π1 x)) (n : ∀ x, TS (π1 x) rest π' kr er (q x)) : TS π (mSeq (mUnpD msk tg m) rest) π' kr er (lt x q) := ts_unpQ h.te hb n
end
end Zm
set_option Elab.async false
set_option linter.all false
set_option maxRecDepth 100000
set_option autoImplicit false
/-! TL9: x = y[k] if t else e; lists within lists written. -/
namespace Zm
open PySem
section
variable {α β τ ρ : Type} {π : List Pt} {π' : τ → List Pt} {m m2 mi mj mk : M} {rest : MS} {k kr ki kj kk : Kd} {e : Ec α} {er : Ec ρ} {t : G α} {x : α} {msk : List Bool} {i j : Nat} {c : T} {g : G Bool} {ti : G Int}
theorem Rp.lstTop {d : D} {xs : List α} (h : Rp .top (eL e) xs d) : ∃ ds, d = .lst true ds ∧ fzs ds = xs.map e.f := by
  obtain ⟨h1, ds, rfl⟩ := h
  refine ⟨ds, rfl, ?_⟩
  have h1 : D.lst false (fzs ds) = .lst false (xs.map e.f) := h1
  exact (D.lst.inj h1).2
theorem set_same {π : List Pt} {j : Nat} {p : Pt} (h : π[j]? = some p) : π.set j p = π := by
  refine List.ext_getElem? fun n => ?_
  by_cases z : j = n
  · subst z
    rw [List.getElem?_set_self (List.getElem?_eq_some_iff.mp h).1, h]
  · rw [List.getElem?_set_ne z]
/-- x[j][k] = e -/
def set2B {β τ ρ : Type} (xs : List (List β)) (j k : Int) (x : β) (q : List (List β) → B τ ρ) : B τ ρ := match L2.ixN xs.length j with
  | some n => match xs[n]? with
    | some ys => match L2.ixN ys.length k with
      | some l => q (xs.set n (ys.set l x))
      | none => badB
    | none => badB
  | none => badB
def app2B {β τ ρ : Type} (xs : List (List β)) (j : Int) (t : G β) (q : List (List β) → B τ ρ) : B τ ρ := match L2.ixN xs.length j with
  | some n => match xs[n]? with
    | some ys => eb t fun x => if ys.length < sizeLine then q (xs.set n (ys ++ [x])) else badB
    | none => badB
  | none => badB
theorem own_at {xs : List (List α)} {ds : List D} (q1 : fzs ds = xs.map (eL e).f) (q2 : noFs ds = true) {n : Nat} {ys : List α} (h : xs[n]? = some ys) : ∃ es, ds[n]? = some (.lst true es) ∧ fzs es = ys.map e.f ∧ noFs es = true := by
  have hl := rp_len q1
  have hn := (List.getElem?_eq_some_iff.mp h).1
  have hd : ds[n]? = some ds[n] := List.getElem?_eq_getElem (by omega)
  have h1 : fz ds[n] = (eL e).f ys := by
    have := congrArg (fun l => l[n]?) q1
    simp only [fzs_eq, List.getElem?_map, hd, h, Option.map_some, Option.some.injEq] at this
    exact this
  have h2 : noF ds[n] = true := noFs_iff.mp q2 _ (List.getElem_mem _)
  obtain ⟨es, e1, e2, e3⟩ := Rp.lstO (e := e) (xs := ys) ⟨h1, h2⟩
  exact ⟨es, by rw [hd, e1], e2, e3⟩
theorem rp_put {xs : List (List α)} {ds es' : List D} (q1 : fzs ds = xs.map (eL e).f) (q2 : noFs ds = true) {n : Nat} {ys' : List α} (p1 : fzs es' = ys'.map e.f) (p2 : noFs es' = true) : Rp .own (eL (eL e)) (xs.set n ys') (.lst true (ds.set n (.lst true es'))) := by
  refine ⟨?_, ?_⟩
  · show D.lst false (fzs (ds.set n (.lst true es'))) = .lst false ((xs.set n ys').map (eL e).f)
    congr 1
    rw [fzs_eq] at q1 ⊢
    rw [List.map_set, q1, List.map_set]
    congr 1
    show D.lst false (fzs es') = .lst false (ys'.map e.f)
    rw [p1]
  · show (true && noFs (ds.set n (.lst true es'))) = true
    rw [Bool.true_and]
    exact noFs_set q2 (by show (true && noFs es') = true; rw [p2]; rfl)
theorem ts_st2 {xs : List (List α)} {q : List (List α) → B τ ρ} {y z : Int} (i : Nat) (h : TE π m .pl e t) (hj : TP π mj kj eI y) (hk : TP π mk kk eI z) (n : ∀ ys, TS (π.set i (.vr .own (eL (eL e)) ys)) rest π' kr er (q ys)) (hx : π[i]? = some (.vr .own (eL (eL e)) xs) := by rfl) :
    TS π (mSeq (mSt2 i mj mk m) rest) π' kr er (eb t fun x => set2B xs y z x q) := fun σ s M => by
  have h := h σ s M
  obtain ⟨d0, e0, r0⟩ := M.get hx
  obtain ⟨ds, rfl, q1, q2⟩ := r0.lstO
  unfold Zm.eb
  cases zt : t s with
  | bad => trivial
  | ex x s1 => rw [zt] at h; have h : m σ s = .ex x s1 := h; simp only [mSeq, mSt2, e0, h, R.to_ex, RS.then_ex]; exact ⟨σ, rfl⟩
  | ok x s1 =>
    rw [zt] at h; obtain ⟨d, h1, r1⟩ := h
    obtain ⟨dj, h2, r2⟩ := hj σ s1 M
    obtain ⟨dk, h3, r3⟩ := hk σ s1 M
    have hl := rp_len q1
    simp only [mSeq, mSt2, e0, h1, h2, R.to_ok, r2.int, set2B]
    rw [hl]
    cases zj : L2.ixN xs.length y with
    | none => trivial
    | some nn =>
      simp only []
      cases zx : xs[nn]? with
      | none => trivial
      | some ys =>
        obtain ⟨es, he, p1, p2⟩ := own_at q1 q2 zx
        have hl2 := rp_len p1
        simp only [he, h3, R.to_ok, r3.int, upd2, hl, zj, uSet, hl2]
        cases zk : L2.ixN ys.length z with
        | none => trivial
        | some l =>
          simp only []
          rw [if_pos (by simp [plains, r1.2])]
          simp only [RS.then_nx]
          refine n _ _ s1 (M.set i (ptm (rp_put q1 q2 ?_ (noFs_set p2 (plain_noF _ r1.2)))))
          rw [fzs_eq] at p1 ⊢
          rw [List.map_set, p1, List.map_set, r1.1]
theorem ts_app2 {xs : List (List α)} {q : List (List α) → B τ ρ} {y : Int} (i : Nat) (hj : TP π mj kj eI y) (h : TE π m .pl e t) (n : ∀ ys, TS (π.set i (.vr .own (eL (eL e)) ys)) rest π' kr er (q ys)) (hx : π[i]? = some (.vr .own (eL (eL e)) xs) := by rfl) :
    TS π (mSeq (mApp2 i mj m) rest) π' kr er (app2B xs y t q) := fun σ s M => by
  have h := h σ s M
  obtain ⟨d0, e0, r0⟩ := M.get hx
  obtain ⟨ds, rfl, q1, q2⟩ := r0.lstO
  obtain ⟨dj, h2, r2⟩ := hj σ s M
  have hl := rp_len q1
  simp only [mSeq, mApp2, e0, h2, R.to_ok, r2.int, app2B]
  rw [hl]
  cases zj : L2.ixN xs.length y with
  | none => trivial
  | some nn =>
    simp only []
    cases zx : xs[nn]? with
    | none => trivial
    | some ys =>
      obtain ⟨es, he, p1, p2⟩ := own_at q1 q2 zx
      have hl2 := rp_len p1
      simp only [he]
      unfold Zm.eb
      cases zt : t s with
      | bad => trivial
      | ex x s1 => rw [zt] at h; have h : m σ s = .ex x s1 := h; simp only [h, R.to_ex, RS.then_ex]; exact ⟨σ, rfl⟩
      | ok x s1 =>
        rw [zt] at h; obtain ⟨d, h1, r1⟩ := h
        simp only [h1, R.to_ok, upd2, hl, zj, he, uApp, hl2]
        rw [if_pos (show plains [d] = true by simp [plains, r1.2])]
        by_cases zs : ys.length < sizeLine
        · simp only [if_pos zs, RS.then_nx]
          exact n _ _ s1 (M.set i (ptm (rp_put q1 q2 (fzs_app p1 r1.1) (noFs_app p2 (by simp [plain_noF _ r1.2])))))
        · simp only [if_neg zs]
          trivial
end
end Zm
namespace Zm
open PySem
end Zm
namespace Zm
open PySem
section
variable {α : Type} {π : List Pt} {m : M} {k : Kd} {e : Ec α} {t : G α} {x : α} {b c : String}
end
end Zm
set_option Elab.async false
set_option linter.all false
set_option maxRecDepth 100000
set_option autoImplicit false
/-! TL10: things of another kind put into a list that is not read any more. -/
namespace Zm
open PySem
section
variable {α β τ ρ : Type} {π : List Pt} {π' : τ → List Pt} {m : M} {rest : MS} {k kr : Kd} {e : Ec α} {ea : Ec β} {er : Ec ρ} {t : G β} {msk : List Bool} {i : Nat}
end
end Zm
set_option Elab.async false
set_option linter.all false
set_option maxRecDepth 100000
set_option autoImplicit false
/-! TL11: loops that write the lists within a list; rows of unlike things. -/
namespace Zm
open PySem
inductive UT where
  | app (c : D)
  | rev
  | seq (a b : UT)
  | each (u : UT)
inductive UR (π : List Pt) : UP → UT → Prop
  | app {α : Type} {e : Ec α} {m : M} {x : α} : TP π m .pl e x → UR π (.app m) (.app (e.f x))
  | rev : UR π .rev .rev
  | seq {a b : UP} {a' b' : UT} : UR π a a' → UR π b b' → UR π (.seq a b) (.seq a' b')
  | each {u : UP} {u' : UT} : UR π u u' → UR π (.each u) (.each u')
section
variable {π : List Pt} {σ : Env} {s : Sto}
end
section
variable {α β τ ρ : Type} {π : List Pt} {π' : τ → List Pt} {rest : MS} {kr : Kd} {e : Ec α} {er : Ec ρ} {u : UP} {ut : UT} {x : α} {vs : List Nat}
end
end Zm
set_option Elab.async false
set_option linter.all false
set_option maxRecDepth 100000
set_option autoImplicit false
/-! TL12: defs as values; a dict of one pair; sorted keys; list(range(..)). -/
namespace Zm
open PySem
section
variable {α β ρ : Type} {π : List Pt} {m mf mk mv ma mb : M} {ms : List M} {k kr ka kb : Kd} {e : Ec α} {er : Ec ρ} {tf : G D} {tbl : List (Str × Fn)}
end
section
variable {α β ρ : Type} {π : List Pt} {m mf mk mv ma mb : M} {k kr ka kb : Kd} {e : Ec α} {er : Ec ρ} {ta tb : G Int} {tv : G α}
end
end Zm
namespace Zm
open PySem
end Zm
namespace Zm
open PySem
section
variable {ρ : Type} {tbl : List (Str × Fn)} {a : Str} {m0 : Fn} {t0 : G ρ} {tg : Str → G ρ}
end
end Zm
set_option Elab.async false
set_option linter.all false
set_option maxRecDepth 100000
set_option autoImplicit false
/-! TL13: a pair as a tuple of like things. -/
namespace Zm
open PySem
section
variable {α : Type} {π : List Pt} {m : M} {k : Kd} {e : Ec α}
theorem te_fz {α : Type} {e : Ec α} {t : G α} (h : TE π m k e t) : TE π (mFz m) .fro e t := fun σ s M => by
  have h := h σ s M
  cases z : t s with
  | bad => trivial
  | ex x s1 =>
    rw [z] at h
    have h : m σ s = .ex x s1 := h
    unfold mFz; rw [h]; exact rfl
  | ok x s1 =>
    rw [z] at h; obtain ⟨d, h1, r1⟩ := h
    unfold mFz
    rw [h1]
    exact ⟨fz d, rfl, by rw [fz_fz]; exact r1.1, r1.1⟩
end
section
variable {α : Type} {π : List Pt} {rest : MS} {τ : Type} {π' : τ → List Pt} {k : Kd} {e : Ec α}
end
end Zm
set_option Elab.async false
set_option linter.all false
set_option maxRecDepth 100000
set_option autoImplicit false
/-! TL14: enumerate of a zip. -/
namespace Zm
open PySem
section
variable {α β : Type} {π : List Pt} {ma mb : M} {e : Ec α} {ea : Ec β}
theorem tip_ezip2 {xs : List α} {ys : List β} (h : TIt π ma e xs) (h' : TIt π mb ea ys) : TIp π (iEZip2 [ma, mb]) (eP eI (eP e ea)) (enumT 0 (xs.zip ys)) := fun σ s M => by
  obtain ⟨d, e1, r⟩ := h σ s M
  obtain ⟨d', e2, r'⟩ := h' σ s M
  simp only [iEZip2, mArgs, e1, e2, R.bind_ok, r, r', zip2_ec, enumF_ec]
end
end Zm
namespace Zm
open PySem
/-- a, b = y[i][j], y[k][l] -/
def par2B {β τ ρ : Type} (xs : List (List β)) (a b c d : Int) (q : β → β → B τ ρ) : B τ ρ := eb (ixT xs a) fun ys => eb (ixT ys b) fun x => eb (ixT xs c) fun zs => eb (ixT zs d) fun y => q x y
section
variable {α τ ρ : Type} {π : List Pt} {π' : τ → List Pt} {ma mb mc md : M} {rest : MS} {kr ka kb kc kd : Kd} {e : Ec α} {er : Ec ρ}
theorem rowAt_T {xs : List (List α)} {ds : List D} (q1 : fzs ds = xs.map (eL e).f) {k : Int} {ys : List α} (h : L2.atI xs k = some ys) : ∃ es, rowAt ds k = some es ∧ fzs es = ys.map e.f := by
  obtain ⟨d, ed, fd, _⟩ := atI_fzs q1 h
  obtain ⟨o, es, rfl, q⟩ := Rp.lst (e := e) (xs := ys) (k := .any) (d := d) ⟨fd, trivial⟩
  exact ⟨es, by unfold rowAt; rw [ed], q⟩
theorem ts_par2Ix {xs : List (List α)} {q : α → α → B τ ρ} {a b c d : Int} (i1 i2 j : Nat) (ha : TP π ma ka eI a) (hb : TP π mb kb eI b) (hc : TP π mc kc eI c) (hd : TP π md kd eI d)
    (n : ∀ x y, TS ((π.set i1 (.vr .any e x)).set i2 (.vr .any e y)) rest π' kr er (q x y)) (hj : π[j]? = some (.vr .top (eL (eL e)) xs) := by rfl) (hi1' : Nat.blt i1 π.length = true := by rfl) (hi2' : Nat.blt i2 π.length = true := by rfl) :
    TS π (mSeq (mPar2Ix i1 i2 j ma mb mc md) rest) π' kr er (par2B xs a b c d q) := fun σ s M => by
  have hl := M.len
  have hi1 := Nat.le_of_ble_eq_true hi1'
  have hi2 := Nat.le_of_ble_eq_true hi2'
  obtain ⟨d0, e0, r0⟩ := M.get hj
  obtain ⟨ds, rfl, q1⟩ := r0.lstTop
  obtain ⟨da, a1, a2⟩ := ha σ s M
  obtain ⟨db, b1, b2⟩ := hb σ s M
  obtain ⟨dc, c1, c2⟩ := hc σ s M
  obtain ⟨dd, d1, d2⟩ := hd σ s M
  unfold par2B Zm.eb ixT
  cases z1 : L2.atI xs a with
  | none => trivial
  | some ys =>
    obtain ⟨es, w1, w2⟩ := rowAt_T q1 z1
    simp only [pr]
    cases z2 : L2.atI ys b with
    | none => trivial
    | some x =>
      obtain ⟨f1, w3, w4, _⟩ := atI_fzs w2 z2
      simp only [pr]
      cases z3 : L2.atI xs c with
      | none => trivial
      | some zs =>
        obtain ⟨es2, u1, u2⟩ := rowAt_T q1 z3
        simp only [pr]
        cases z4 : L2.atI zs d with
        | none => trivial
        | some y =>
          obtain ⟨f2, u3, u4, _⟩ := atI_fzs u2 z4
          simp only [pr, mSeq, mPar2Ix, e0, toI1, a1, b1, c1, d1, a2.int, b2.int, c2.int, d2.int, R.to_ok, w1, w3, u1, u3]
          rw [if_pos ⟨by omega, by omega⟩]
          have M1 := M.set j (p := .vr .top (eL (eL e)) xs) (o := some (.lst true (fzs ds))) ⟨_, rfl, by
            refine ⟨?_, _, rfl⟩
            show D.lst false (fzs (fzs ds)) = .lst false (xs.map (eL e).f)
            congr 1
            rw [← q1, fzs_eq, fzs_eq, List.map_map]
            exact List.map_congr_left fun d _ => fz_fz d⟩
          rw [set_same hj] at M1
          exact n x y _ s ((M1.set i1 (ptm ⟨by rw [fz_fz]; exact w4, trivial⟩)).set i2 (ptm ⟨by rw [fz_fz]; exact u4, trivial⟩))
end
end Zm
namespace Zm
open PySem
section
variable {α : Type} {π : List Pt} {m : M} {e : Ec α}
theorem rp_someP {x : α} {d : D} (h : Rp .pl e x d) : Rp .pl (eO e) (some x) d := ⟨h.1, h.2⟩
theorem TP.someP {x : α} (h : TP π m .pl e x) : TP π m .pl (eO e) (Option.some x) := fun σ s M => let ⟨d, q, r⟩ := h σ s M; ⟨d, q, rp_someP r⟩
theorem TE.someP {t : G α} (h : TE π m .pl e t) : TE π m .pl (eO e) (bd t fun x => pr (Option.some x)) := fun σ s M => by
  have h := h σ s M
  unfold bd
  cases z : t s with
  | bad => trivial
  | ex x s1 => rw [z] at h; exact h
  | ok x s1 =>
    rw [z] at h; obtain ⟨d, h1, r1⟩ := h
    exact ⟨d, h1, rp_someP r1⟩
end
end Zm
set_option Elab.async false
set_option linter.all false
set_option maxRecDepth 100000
set_option autoImplicit false
/-! TL15: late rules. -/
namespace Zm
open PySem
section
variable {α β : Type} {ka : Kd} {e : Ec α} {ea : Ec β} {d : D}
end
end Zm
set_option Elab.async false
set_option linter.all false
set_option maxRecDepth 100000
set_option autoImplicit false
/-! TL16: late rules: name *= e. -/
namespace Zm
open PySem
section
variable {ρ τ : Type} {π : List Pt} {π' : τ → List Pt} {rest : MS} {kr : Kd} {er : Ec ρ} {m : M} {k kc : Kd}
end
end Zm
set_option Elab.async false
set_option linter.all false
set_option maxRecDepth 100000
set_option autoImplicit false
/-! TL17: late rules: min of three. -/
namespace Zm
open PySem
section
variable {ka kb kc : Kd} {d d' d2 : D}
end
end Zm
set_option Elab.async false
set_option linter.all false
set_option maxRecDepth 100000
set_option autoImplicit false
/-! TL18: late rules: tuple(reversed(..)), list(reversed(..)). -/
namespace Zm
open PySem
section
variable {α : Type} {ka : Kd} {e : Ec α} {d : D}
end
end Zm
set_option Elab.async false
set_option linter.all false
set_option maxRecDepth 100000
set_option autoImplicit false
/-! TL19: late rules: return (number, own list); a, b = what holds nothing frozen. -/
namespace Zm
open PySem
section
variable {ρ τ α : Type} {π : List Pt} {π' : τ → List Pt} {rest : MS} {kr : Kd} {er : Ec ρ} {m : M} {k : Kd} {e : Ec α} {msk : List Bool}
end
end Zm
set_option Elab.async false
set_option linter.all false
set_option maxRecDepth 100000
set_option autoImplicit false
/-! TL20: late rules: a name becomes a new list of what is frozen. -/
namespace Zm
open PySem
section
variable {ρ τ α : Type} {π : List Pt} {π' : τ → List Pt} {rest : MS} {kr : Kd} {er : Ec ρ} {m : M} {e : Ec α} {msk : List Bool} {i : Nat}
end
end Zm
set_option Elab.async false
set_option linter.all false
set_option maxRecDepth 100000
set_option autoImplicit false
/-! TL21: late rules: sorted(d) of pair keys. -/
namespace Zm
open PySem
section
variable {β : Type} {k : Kd} {ev : Ec β} {d : D}
end
end Zm
set_option Elab.async false
set_option linter.all false
set_option maxRecDepth 100000
set_option autoImplicit false
/-! TL22: late rules: x[j][k] += e. -/
namespace Zm
open PySem
section
variable {ρ τ : Type} {π : List Pt} {π' : τ → List Pt} {rest : MS} {kr kj kk k : Kd} {er : Ec ρ} {mj mk m : M}
end
end Zm
set_option Elab.async false
set_option linter.all false
set_option maxRecDepth 100000
set_option autoImplicit false
/-! TL23: late rules: name = f(a, xs.pop(e)), f a def as a value; sorted(xs, reverse=True). -/
namespace Zm
open PySem
section
variable {α η ρ τ : Type} {π : List Pt} {π' : τ → List Pt} {rest : MS} {kr kk kd kh k : Kd} {er : Ec ρ} {e : Ec α} {eh : Ec η} {vh : η} {me : M} {tbl : List (Str × Fn)} {msk : List Bool}
end
section
variable {ka : Kd} {d : D}
end
end Zm
set_option Elab.async false
set_option linter.all false
set_option maxRecDepth 100000
set_option autoImplicit false
/-! TL24: late rules: the least of a list of lists. -/
namespace Zm
open PySem
@[irreducible] def minLLT (xs : List (List Int)) : G (List Int) := fun s => match xs with
  | x :: xs => .ok (minLL x xs) s
  | [] => .bad
section
variable {α β ρ τ : Type} {π : List Pt} {π' : τ → List Pt} {rest : MS} {kr k : Kd} {er : Ec ρ} {e : Ec α} {ea : Ec β} {m : M} {t : G β} {msk : List Bool}
end
end Zm
set_option Elab.async false
set_option linter.all false
set_option maxRecDepth 100000
set_option autoImplicit false
/-! TL25: late rules: a tuple so many times. -/
namespace Zm
open PySem
section
variable {α : Type} {e : Ec α} {ka kb : Kd} {d d' : D}
@[irreducible] def repsG (xs : List α) (k : Int) : G (List α) := fun s => if k = 1 then .bad else repsT xs k s
theorem x_repsG [Pn e] {xs : List α} {j : Int} (h : Rp ka (eT e) xs d) (h' : Rp kb eI j d') : OkE gMul [d, d'] .any (eT e) (repsG xs j) := fun s => by
  unfold repsG
  by_cases z : j = 1
  · rw [if_pos z]; trivial
  · rw [if_neg z]
    have := x_reps h h' s
    obtain ⟨ds, e1, _⟩ := h.tup
    have e2 := h'.int
    subst e1 e2
    have e3 : gMulT s [.tup ds, .int j] = gMul s [.tup ds, .int j] := by
      show (if j = 1 then some (D.tup ds) else gMul s [.tup ds, .int j]) = _
      rw [if_neg z]
    rw [e3] at this
    exact this
end
section
variable {α β ρ τ : Type} {π : List Pt} {π' : τ → List Pt} {rest : MS} {kr k kb : Kd} {er : Ec ρ} {e : Ec α} {m mi : M} {t : G α} {msk : List Bool}
end
end Zm
set_option Elab.async false
set_option linter.all false
set_option maxRecDepth 100000
set_option autoImplicit false
/-! TL26: xs[j] = F(box, xs[j]). -/
namespace Zm
open PySem
section
variable {ρ τ : Type} {π : List Pt} {π' : τ → List Pt} {rest : MS} {kr : Kd} {er : Ec ρ} {fn : Fn}
end
end Zm
set_option Elab.async false
set_option linter.all false
set_option maxRecDepth 100000
set_option autoImplicit false
/-! TL27: sorted(a tuple of numbers). -/
namespace Zm
open PySem
end Zm
set_option Elab.async false
set_option linter.all false
set_option maxRecDepth 100000
set_option autoImplicit false
/-! TL28: an empty dict as anything; repr of such data; lists of texts that a machine tells. -/
namespace Zm
open PySem
section
variable {π : List Pt} {k ka : Kd} {α : Type} {e : Ec α} {x : α} {d : D}
@[irreducible] def reprZ (a : D) : G Str := fun s => match gReprZ s [a] with
  | some (.str z) => .ok z s
  | _ => .bad
end
end Zm
set_option Elab.async false
set_option linter.all false
set_option maxRecDepth 100000
set_option autoImplicit false
/-! TL29: lists of pairs of numbers that a machine tells. -/
namespace Zm
open PySem
end Zm
set_option Elab.async false
set_option linter.all false
set_option maxRecDepth 100000
set_option maxHeartbeats 4000000
set_option autoImplicit false
namespace Zm
open PySem
def g_is_hall (x0 : D) : G Bool := fun s => match f_is_hall [fz x0] s with
  | .ok (.bl r) s => .ok r s
  | .ex x s => .ex x s
  | _ => .bad
theorem tf_is_hall {x0 : D} {d_0 : D} (h_0 : Rp .fro eX x0 d_0) (s : Sto) : Rf .pl eB (g_is_hall x0 s) (f_is_hall [d_0] s) := by
  rw [h_0.froX]
  unfold g_is_hall
  cases f_is_hall [fz x0] s with
  | ok d s1 => cases d <;> first | exact ⟨_, rfl, rfl, rfl⟩ | trivial
  | ex x s1 => exact rfl
  | bad => trivial
/-- need_hall -/
def g_need_hall (hall : (List (List Int))) : G Unit := fnU (τ := Unit) (ifB (notG (g_is_hall ((eT (eT eI)).f hall))) badB (nxB ()))
theorem tf_need_hall {hall : (List (List Int))} {d_0 : D} (h_0 : Rp .any (eT (eT eI)) hall d_0) (s : Sto) : Rf .pl eN (g_need_hall hall s) (f_need_hall [d_0] s) := fnU_ok (π' := fun _ : Unit => nosP 1) rfl (mt_cons h_0.plain (mt_nos 0)) (ts_one (ts_ifD (tc_not (tc_V (te_call (ta_P (TP.asXp (te_varP 0)) fun d1 r1 => (ta_nil (fun s => tf_is_hall r1 s)))))) ts_bad (ts_skip ts_end)))
/-- _law_cell_at -/
def g__law_cell_at (script : (List Int)) (k : Int) : G Int := fnT (τ := Unit) (if (decide (k < (script.length : Int))) = true then (eb (ixT script k) rtB) else (rtB (0 : Int)))
theorem tf__law_cell_at {script : (List Int)} {k : Int} {d_0 : D} {d_1 : D} (h_0 : Rp .any eRo script d_0) (h_1 : Rp .any eI k d_1) (s : Sto) : Rf .pl eI (g__law_cell_at script k s) (f__law_cell_at [d_0, d_1] s) := fn_ok (π' := fun _ : Unit => nosP 2) rfl (mt_cons h_0.plain (mt_cons h_1.plain (mt_nos 0))) (ts_ifDp (tcp_V (tp_op (pa (te_varP 1) fun d2 r2 => (pa (tp_op (pa (te_varP 0) fun d1 r1 => (pa_nil (x_lenR r1)))) fun d3 r3 => (pa_nil (x_lt r2 r3)))))) (ts_retE (te_op (ta_P (te_varP 0) fun d4 r4 => (ta_P (te_varP 1) fun d5 r5 => (ta_nil (x_ixR r4 r5)))))) (ts_skip (ts_one (ts_retP te_int))))
def g__law_bag (x0 : Int) : G Nat := fun s => match f__law_bag [.int x0] s with
  | .ok (.box r) s => .ok r s
  | .ex x s => .ex x s
  | _ => .bad
theorem tf__law_bag {x0 : Int} {d_0 : D} (h_0 : Rp .any eI x0 d_0) (s : Sto) : Rf .pl eBx (g__law_bag x0 s) (f__law_bag [d_0] s) := by
  rw [h_0.int]
  unfold g__law_bag
  cases f__law_bag [.int x0] s with
  | ok d s1 => cases d <;> first | exact ⟨_, rfl, rfl, rfl⟩ | trivial
  | ex x s1 => exact rfl
  | bad => trivial
def g__law_draw (x0 : Nat) (x1 : Int) : G Int := fun s => match f__law_draw [.box x0, .int x1] s with
  | .ok (.int r) s => .ok r s
  | .ex x s => .ex x s
  | _ => .bad
theorem tf__law_draw {x0 : Nat} {x1 : Int} {d_0 : D} {d_1 : D} (h_0 : Rp .any eBx x0 d_0) (h_1 : Rp .any eI x1 d_1) (s : Sto) : Rf .pl eI (g__law_draw x0 x1 s) (f__law_draw [d_0, d_1] s) := by
  rw [h_0.box]; rw [h_1.int]
  unfold g__law_draw
  cases f__law_draw [.box x0, .int x1] s with
  | ok d s1 => cases d <;> first | exact ⟨_, rfl, rfl, rfl⟩ | trivial
  | ex x s1 => exact rfl
  | bad => trivial
@[irreducible] def g__law_alike_8dc4 (x0 : D) (x1 : D) : G Bool := fun s => match f__law_alike_8dc4 [fz x0, fz x1] s with
  | .ok (.bl r) s => .ok r s
  | .ex x s => .ex x s
  | _ => .bad
theorem tf__law_alike_8dc4 {x0 : D} {x1 : D} {d_0 : D} {d_1 : D} (h_0 : Rp .fro eX x0 d_0) (h_1 : Rp .fro eX x1 d_1) (s : Sto) : Rf .pl eB (g__law_alike_8dc4 x0 x1 s) (f__law_alike_8dc4 [d_0, d_1] s) := by
  rw [h_0.froX]; rw [h_1.froX]
  unfold g__law_alike_8dc4
  cases f__law_alike_8dc4 [fz x0, fz x1] s with
  | ok d s1 => cases d <;> first | exact ⟨_, rfl, rfl, rfl⟩ | trivial
  | ex x s1 => exact rfl
  | bad => trivial
/-- _law_minutes -/
def g__law_minutes (bag : Nat) (lot : Int) : G Int := fnT (τ := Unit) (eb (bd (bd (powT (10 : Int) (14 : Int)) fun y6 => (pr [(2 : Int), (4 : Int), (20 : Int), y6, (0 : Int)])) fun y8 => (ixT y8 lot)) fun most => (sq (τ := (Int)) (if (decide (most = (0 : Int))) = true then (eb (bd (bd (powT (10 : Int) (14 : Int)) fun y19 => (pr [(1 : Int), (2 : Int), (4 : Int), (30 : Int), y19])) fun y22 => (bd (g__law_draw bag (5 : Int)) fun y23 => (ixT y22 y23))) fun most1 => (nxB most1)) else (nxB most)) fun (v12 : (Int)) => (eb (bd (g__law_draw bag v12) fun y30 => (bd (bd (g__law_draw bag (4 : Int)) fun y29 => (pr (min (1 : Int) y29))) fun y31 => (mulT y30 y31))) rtB)))
theorem tf__law_minutes {bag : Nat} {lot : Int} {d_0 : D} {d_1 : D} (h_0 : Rp .any eBx bag d_0) (h_1 : Rp .any eI lot d_1) (s : Sto) : Rf .pl eI (g__law_minutes bag lot s) (f__law_minutes [d_0, d_1] s) := fn_ok (π' := fun _ : Unit => nosP 3) rfl (mt_cons h_0.plain (mt_cons h_1.plain (mt_nos 1))) (ts_setPlE (i := 2) ((te_op (ta_E (te_op (ta_P te_int fun d3 r3 => (ta_P te_int fun d4 r4 => (ta_P te_int fun d5 r5 => (ta_E (te_op (ta_P te_int fun d1 r1 => (ta_P te_int fun d2 r2 => (ta_nil (x_pow r1 r2))))) fun y6 d6 r6 => (ta_P te_int fun d7 r7 => (ta_nil (ok_p (x_lstP (RpL.cons r3 (RpL.cons r4 (RpL.cons r5 (RpL.cons r6 (RpL.cons r7 RpL.nil)))))))))))))) fun y8 d8 r8 => (ta_P (te_varP 1) fun d9 r9 => (ta_nil (x_ixL r8 r9)))))).plain fun most => (at_ [.vr .pl eBx bag, .vr .pl eI lot, .vr .pl eI most] (ts_sq (π' := (fun (v12 : Int) => [.vr .pl eBx bag, .vr .pl eI lot, .vr .pl eI v12])) (ts_ifp (tcp_V (tp_op (pa (te_varP 2) fun d10 r10 => (pa te_int fun d11 r11 => (pa_nil (x_eq (e := eI) r10 r11)))))) (ts_one (ts_setPlE (i := 2) ((te_op (ta_E (te_op (ta_P te_int fun d15 r15 => (ta_P te_int fun d16 r16 => (ta_P te_int fun d17 r17 => (ta_P te_int fun d18 r18 => (ta_E (te_op (ta_P te_int fun d13 r13 => (ta_P te_int fun d14 r14 => (ta_nil (x_pow r13 r14))))) fun y19 d19 r19 => (ta_nil (ok_p (x_lstP (RpL.cons r15 (RpL.cons r16 (RpL.cons r17 (RpL.cons r18 (RpL.cons r19 RpL.nil)))))))))))))) fun y22 d22 r22 => (ta_E (te_call (ta_P (te_varP 0) fun d20 r20 => (ta_P te_int fun d21 r21 => (ta_nil (fun s => tf__law_draw r20.any r21.any s))))) fun y23 d23 r23 => (ta_nil (x_ixL r22 r23)))))).plain fun most1 => (at_ [.vr .pl eBx bag, .vr .pl eI lot, .vr .pl eI most1] (ts_nil (v := most1) (wk_eq (wk_eq (wk_eq wk_nil))))))) (ts_nil (v := most) (wk_eq (wk_eq (wk_eq wk_nil))))) fun (v12 : (Int)) => (ts_one (ts_retE (te_op (ta_E (te_call (ta_P (te_varP 0) fun d24 r24 => (ta_P (te_varP 2) fun d25 r25 => (ta_nil (fun s => tf__law_draw r24.any r25.any s))))) fun y30 d30 r30 => (ta_E (te_op (ta_P te_int fun d28 r28 => (ta_E (te_call (ta_P (te_varP 0) fun d26 r26 => (ta_P te_int fun d27 r27 => (ta_nil (fun s => tf__law_draw r26.any r27.any s))))) fun y29 d29 r29 => (ta_nil (ok_p (x_min2 r28 r29)))))) fun y31 d31 r31 => (ta_nil (x_mul r30 r31))))))))))
/-- _law_hall -/
def g__law_hall_9811 (bag : Nat) (rows_upto : Int) (upto : Int) (few : Bool) : G (List (List Int)) := fnT (τ := Unit) (eb (bd (bd (g__law_draw bag rows_upto) fun y4 => (pr ((1 : Int) + y4))) fun y9 => (bd (bd (g__law_draw bag upto) fun y8 => (pr ((1 : Int) + y8))) fun y10 => (pr (y9, y10)))) fun v11 => (eb (g__law_draw bag (if few = true then (2 : Int) else (5 : Int))) fun lot => (eb (bd (bd (rangeT v11.1) fun z20 => mapG z20 (fun row => (bd (bd (rangeT v11.2) fun z18 => mapG z18 (fun k => (g__law_minutes bag lot))) fun y19 => (pr y19)))) fun y21 => (pr y21)) rtB)))
theorem tf__law_hall_9811 {bag : Nat} {rows_upto : Int} {upto : Int} {few : Bool} {d_0 : D} {d_1 : D} {d_2 : D} {d_3 : D} (h_0 : Rp .any eBx bag d_0) (h_1 : Rp .any eI rows_upto d_1) (h_2 : Rp .any eI upto d_2) (h_3 : Rp .any eB few d_3) (s : Sto) : Rf .pl (eT (eT eI)) (g__law_hall_9811 bag rows_upto upto few s) (f__law_hall_9811 [d_0, d_1, d_2, d_3] s) := fn_ok (π' := fun _ : Unit => nosP 9) rfl (mt_cons h_0.plain (mt_cons h_1.plain (mt_cons h_2.plain (mt_cons h_3.plain (mt_nos 5))))) (ts_unpQ ((te_op (ta_E (te_op (ta_P te_int fun d3 r3 => (ta_E (te_call (ta_P (te_varP 0) fun d1 r1 => (ta_P (te_varP 1) fun d2 r2 => (ta_nil (fun s => tf__law_draw r1.any r2.any s))))) fun y4 d4 r4 => (ta_nil (ok_p (x_addI r3 r4)))))) fun y9 d9 r9 => (ta_E (te_op (ta_P te_int fun d7 r7 => (ta_E (te_call (ta_P (te_varP 0) fun d5 r5 => (ta_P (te_varP 2) fun d6 r6 => (ta_nil (fun s => tf__law_draw r5.any r6.any s))))) fun y8 d8 r8 => (ta_nil (ok_p (x_addI r7 r8)))))) fun y10 d10 r10 => (ta_nil (ok_p (x_pair r9 r10))))))).plain (fun v11 => (tb_t2 (tb_nmP (i := 4)) (tb_nmP (i := 5)))) fun v11 => (at_ [.vr .pl eBx bag, .vr .pl eI rows_upto, .vr .pl eI upto, .vr .pl eB few, .vr .pl eI v11.1, .vr .pl eI v11.2, .no, .no, .no] (ts_setPlE (i := 6) (te_call (ta_P (te_varP 0) fun d12 r12 => (ta_P (tp_if (tcp_V (te_varP 3)) te_int te_int) fun d13 r13 => (ta_nil (fun s => tf__law_draw r12.any r13.any s))))) fun lot => (at_ [.vr .pl eBx bag, .vr .pl eI rows_upto, .vr .pl eI upto, .vr .pl eB few, .vr .pl eI v11.1, .vr .pl eI v11.2, .vr .pl eI lot, .no, .no] (ts_one (ts_retE ((te_op (ta_E (te_mapOE (ti_r1p (te_varP 4)) (fun row => ⟨[.vr .pl eBx bag, .vr .pl eI rows_upto, .vr .pl eI upto, .vr .pl eB few, .vr .pl eI v11.1, .vr .pl eI v11.2, .vr .pl eI lot, .no, .vr .pl eI row], (tb_nmP (i := 8)), (((te_op (ta_E (te_mapOE (ti_r1p (te_varP 5)) (fun k => ⟨[.vr .pl eBx bag, .vr .pl eI rows_upto, .vr .pl eI upto, .vr .pl eB few, .vr .pl eI v11.1, .vr .pl eI v11.2, .vr .pl eI lot, .vr .pl eI k, .vr .pl eI row], (tb_nmP (i := 7)), ((te_call (ta_P (te_varP 0) fun d16 r16 => (ta_P (te_varP 6) fun d17 r17 => (ta_nil (fun s => tf__law_minutes r16.any r17.any s)))))).own⟩)) fun y19 d19 r19 => (ta_nil (ok_p (x_tupL r19)))))).plain).own⟩)) fun y21 d21 r21 => (ta_nil (ok_p (x_tupL r21)))))).plain))))))
@[irreducible] def g__law_alike (x0 : D) (x1 : D) : G Bool := fun s => match f__law_alike [fz x0, fz x1] s with
  | .ok (.bl r) s => .ok r s
  | .ex x s => .ex x s
  | _ => .bad
/-- next_shape -/
def g_next_shape (ahead : (List Int)) (above : (List Int)) (beside : (List Int)) (minutes : Int) : G (List Int) := fnT (τ := Unit) (lt ([] : (List Int)) fun found => (lt minutes fun more => (sq (τ := ((List Int) × Int)) (forT (fun x4 (v3 : ((List Int) × Int)) => (apB v3.1 ((max x4.2.1 x4.2.2) + v3.2) fun found1 => (eb (bd (ixT ahead x4.1) fun y18 => (pr ((min x4.2.1 x4.2.2) - y18))) fun more1 => (nxB (found1, more1))))) (enumT 0 (above.zip beside)) (found, more)) fun (v3 : ((List Int) × Int)) => (rtB v3.1))))
theorem tf_next_shape {ahead : (List Int)} {above : (List Int)} {beside : (List Int)} {minutes : Int} {d_0 : D} {d_1 : D} {d_2 : D} {d_3 : D} (h_0 : Rp .any (eL eI) ahead d_0) (h_1 : Rp .any (eL eI) above d_1) (h_2 : Rp .any (eL eI) beside d_2) (h_3 : Rp .any eI minutes d_3) (s : Sto) : Rf .own (eL eI) (g_next_shape ahead above beside minutes s) (f_next_shape [d_0, d_1, d_2, d_3] s) := fn_ok (π' := fun _ : Unit => nosP 9) rfl (mt_cons h_0 (mt_cons h_1 (mt_cons h_2 (mt_cons h_3.plain (mt_nos 5))))) (ts_setP (i := 4) (tp_op (pa_nil (x_lstO (RpL.nil (k := .own) (e := eI))))) fun found => (at_ [.vr .any (eL eI) ahead, .vr .any (eL eI) above, .vr .any (eL eI) beside, .vr .pl eI minutes, .vr .own (eL eI) found, .no, .no, .no, .no] (ts_setPlP (i := 5) (te_varP 3) fun more => (at_ [.vr .any (eL eI) ahead, .vr .any (eL eI) above, .vr .any (eL eI) beside, .vr .pl eI minutes, .vr .own (eL eI) found, .vr .pl eI more, .no, .no, .no] (ts_sq (π' := (fun (v3 : (List Int) × Int) => [.vr .any (eL eI) ahead, .vr .any (eL eI) above, .vr .any (eL eI) beside, .vr .pl eI minutes, .vr .own (eL eI) v3.1, .vr .pl eI v3.2, .no, .no, .no])) (ts_for (v0 := (found, more)) (fun (v3 : (List Int) × Int) => [.vr .any (eL eI) ahead, .vr .any (eL eI) above, .vr .any (eL eI) beside, .vr .pl eI minutes, .vr .own (eL eI) v3.1, .vr .pl eI v3.2, .no, .no, .no]) (tip_ezip2 (it_L (te_var 1)) (it_L (te_var 2))) (wk_eq (wk_eq (wk_eq (wk_eq (wk_eq (wk_eq (wk_no (wk_no (wk_no wk_nil))))))))) (fun x4 (v3 : ((List Int) × Int)) => ⟨[.vr .any (eL eI) ahead, .vr .any (eL eI) above, .vr .any (eL eI) beside, .vr .pl eI minutes, .vr .own (eL eI) v3.1, .vr .pl eI v3.2, .vr .pl eI x4.1, .vr .pl eI x4.2.1, .vr .pl eI x4.2.2], (tb_t2 (tb_nmP (i := 6)) (tb_t2 (tb_nmP (i := 7)) (tb_nmP (i := 8)))), (ts_appP 4 ((tp_op (pa (tp_op (pa (te_varP 7) fun d9 r9 => (pa (te_varP 8) fun d10 r10 => (pa_nil (x_max2 r9 r10))))) fun d11 r11 => (pa (te_varP 5) fun d12 r12 => (pa_nil (x_addI r11 r12)))))).own fun found1 => (at_ [.vr .any (eL eI) ahead, .vr .any (eL eI) above, .vr .any (eL eI) beside, .vr .pl eI minutes, .vr .own (eL eI) found1, .vr .pl eI v3.2, .vr .pl eI x4.1, .vr .pl eI x4.2.1, .vr .pl eI x4.2.2] (ts_one (ts_setPlE (i := 5) (te_op (ta_P (tp_op (pa (te_varP 7) fun d13 r13 => (pa (te_varP 8) fun d14 r14 => (pa_nil (x_min2 r13 r14))))) fun d17 r17 => (ta_E ((te_op (ta_P (te_var 0) fun d15 r15 => (ta_P (te_varP 6) fun d16 r16 => (ta_nil (x_ixL r15 r16)))))).plain fun y18 d18 r18 => (ta_nil (ok_p (x_sub r17 r18)))))) fun more1 => (at_ [.vr .any (eL eI) ahead, .vr .any (eL eI) above, .vr .any (eL eI) beside, .vr .pl eI minutes, .vr .own (eL eI) found1, .vr .pl eI more1, .vr .pl eI x4.1, .vr .pl eI x4.2.1, .vr .pl eI x4.2.2] (ts_nil (v := (found1, more1)) (wk_eq (wk_eq (wk_eq (wk_eq (wk_eq (wk_eq (wk_no (wk_no (wk_no wk_nil)))))))))))))))⟩)) fun (v3 : ((List Int) × Int)) => (ts_one (ts_retV 4)))))))
/-- shapes -/
def g_shapes (hall : (List (List Int))) : G (List (List (List Int))) := fnT (τ := Unit) (eb (bd (bd (bd (ixT hall (0 : Int)) fun y4 => (pr (y4.length : Int))) fun y6 => (pr (min (hall.length : Int) y6))) fun y7 => (pr (y7 + (1 : Int)))) fun size => (eb (bd (bd (bd (bd (bd (ixT hall (0 : Int)) fun y11 => (pr (y11.length : Int))) fun y12 => (pr (y12 + (1 : Int)))) rangeT) fun z18 => mapG z18 (fun customer => (repT (0 : Int) size))) fun y19 => (pr [y19])) fun found => (sq (τ := ((List (List (List Int))))) (forT (fun row (v20 : ((List (List (List Int))))) => (eb (bd (repT (0 : Int) size) fun y25 => (pr [y25])) fun here => (sq (τ := ((List (List Int)))) (forT (fun x28 (v27 : ((List (List Int)))) => (par2B v20 (-(1 : Int)) x28.1 (-(1 : Int)) (x28.1 + (1 : Int)) fun ahead above => (eb (bd (ixT v27 (-(1 : Int))) fun y45 => (g_next_shape ahead above y45 x28.2)) fun y47 => apB v27 y47 fun here1 => (nxB here1)))) (enumT 0 row) here) fun (v27 : ((List (List Int)))) => (apB v20 v27 fun found1 => (nxB found1))))) hall found) fun (v20 : ((List (List (List Int))))) => (rtB v20))))
theorem tf_shapes {hall : (List (List Int))} {d_0 : D} (h_0 : Rp .any (eT (eT eI)) hall d_0) (s : Sto) : Rf .top (eL (eL (eL eI))) (g_shapes hall s) (f_shapes [d_0] s) := fn_ok (π' := fun _ : Unit => nosP 9) rfl (mt_cons h_0.plain (mt_nos 8)) (ts_setPlE (i := 1) (te_op (ta_E (te_op (ta_P (tp_op (pa (te_varP 0) fun d1 r1 => (pa_nil (x_lenT r1)))) fun d5 r5 => (ta_E (te_op (ta_E (te_op (ta_P (te_varP 0) fun d2 r2 => (ta_P te_int fun d3 r3 => (ta_nil (x_ixT r2 r3))))) fun y4 d4 r4 => (ta_nil (ok_p (x_lenT r4))))) fun y6 d6 r6 => (ta_nil (ok_p (x_min2 r5 r6)))))) fun y7 d7 r7 => (ta_P te_int fun d8 r8 => (ta_nil (ok_p (x_addI r7 r8)))))) fun size => (at_ [.vr .pl (eT (eT eI)) hall, .vr .pl eI size, .no, .no, .no, .no, .no, .no, .no] (ts_setE (i := 2) (te_op (ta_E (te_mapOE (ti_r1 (te_op (ta_E (te_op (ta_E (te_op (ta_P (te_varP 0) fun d9 r9 => (ta_P te_int fun d10 r10 => (ta_nil (x_ixT r9 r10))))) fun y11 d11 r11 => (ta_nil (ok_p (x_lenT r11))))) fun y12 d12 r12 => (ta_P te_int fun d13 r13 => (ta_nil (ok_p (x_addI r12 r13))))))) (fun customer => ⟨[.vr .pl (eT (eT eI)) hall, .vr .pl eI size, .no, .vr .pl eI customer, .no, .no, .no, .no, .no], (tb_nmP (i := 3)), (te_op (ta_P (tp_op (pa te_int fun d15 r15 => (pa_nil (x_lstP (RpL.cons r15 RpL.nil))))) fun d16 r16 => (ta_P (te_varP 1) fun d17 r17 => (ta_nil (x_rep r16 r17)))))⟩)) fun y19 d19 r19 => (ta_nil (ok_p (x_lstO (RpL.cons r19 RpL.nil)))))) fun found => (at_ [.vr .pl (eT (eT eI)) hall, .vr .pl eI size, .vr .own (eL (eL (eL eI))) found, .no, .no, .no, .no, .no, .no] (ts_sq (π' := (fun (v20 : (List (List (List Int)))) => [.vr .pl (eT (eT eI)) hall, .vr .pl eI size, .vr .top (eL (eL (eL eI))) v20, .no, .no, .no, .no, .no, .no])) (ts_for (v0 := found) (fun (v20 : (List (List (List Int)))) => [.vr .pl (eT (eT eI)) hall, .vr .pl eI size, .vr .top (eL (eL (eL eI))) v20, .no, .no, .no, .no, .no, .no]) (tip_seq (it_T (te_varP 0))) (wk_eq (wk_eq (wk_top (wk_no (wk_no (wk_no (wk_no (wk_no (wk_no wk_nil))))))))) (fun row (v20 : ((List (List (List Int))))) => ⟨[.vr .pl (eT (eT eI)) hall, .vr .pl eI size, .vr .top (eL (eL (eL eI))) v20, .no, .vr .pl (eT eI) row, .no, .no, .no, .no], (tb_nmP (i := 4)), (ts_setE (i := 5) (te_op (ta_E (te_op (ta_P (tp_op (pa te_int fun d22 r22 => (pa_nil (x_lstP (RpL.cons r22 RpL.nil))))) fun d23 r23 => (ta_P (te_varP 1) fun d24 r24 => (ta_nil (x_rep r23 r24))))) fun y25 d25 r25 => (ta_nil (ok_p (x_lstO (RpL.cons r25 RpL.nil)))))) fun here => (at_ [.vr .pl (eT (eT eI)) hall, .vr .pl eI size, .vr .top (eL (eL (eL eI))) v20, .no, .vr .pl (eT eI) row, .vr .own (eL (eL eI)) here, .no, .no, .no] (ts_sq (π' := (fun (v27 : (List (List Int))) => [.vr .pl (eT (eT eI)) hall, .vr .pl eI size, .vr .top (eL (eL (eL eI))) v20, .no, .vr .pl (eT eI) row, .vr .own (eL (eL eI)) v27, .no, .no, .no])) (ts_for (v0 := here) (fun (v27 : (List (List Int))) => [.vr .pl (eT (eT eI)) hall, .vr .pl eI size, .vr .top (eL (eL (eL eI))) v20, .no, .vr .pl (eT eI) row, .vr .own (eL (eL eI)) v27, .no, .no, .no]) (tip_enum (it_T (te_varP 4))) (wk_eq (wk_eq (wk_eq (wk_no (wk_eq (wk_eq (wk_no (wk_no (wk_no wk_nil))))))))) (fun x28 (v27 : ((List (List Int)))) => ⟨[.vr .pl (eT (eT eI)) hall, .vr .pl eI size, .vr .top (eL (eL (eL eI))) v20, .vr .pl eI x28.1, .vr .pl (eT eI) row, .vr .own (eL (eL eI)) v27, .vr .pl eI x28.2, .no, .no], (tb_t2 (tb_nmP (i := 3)) (tb_nmP (i := 6))), (ts_par2Ix 7 8 2 (tp_op (pa te_int fun d29 r29 => (pa_nil (x_neg r29)))) (te_varP 3) (tp_op (pa te_int fun d30 r30 => (pa_nil (x_neg r30)))) (tp_op (pa (te_varP 3) fun d31 r31 => (pa te_int fun d32 r32 => (pa_nil (x_addI r31 r32))))) fun ahead above => (at_ [.vr .pl (eT (eT eI)) hall, .vr .pl eI size, .vr .top (eL (eL (eL eI))) v20, .vr .pl eI x28.1, .vr .pl (eT eI) row, .vr .own (eL (eL eI)) v27, .vr .pl eI x28.2, .vr .any (eL eI) ahead, .vr .any (eL eI) above] (ts_one (ts_appE 5 (te_call (ta_P (te_var 7) fun d43 r43 => (ta_P (te_var 8) fun d44 r44 => (ta_E (te_op (ta_P (te_var 5) fun d41 r41 => (ta_P (tp_op (pa te_int fun d40 r40 => (pa_nil (x_neg r40)))) fun d42 r42 => (ta_nil (x_ixL r41 r42))))) fun y45 d45 r45 => (ta_P (te_varP 6) fun d46 r46 => (ta_nil (fun s => tf_next_shape r43.any r44.any r45.any r46.any s))))))) fun here1 => (at_ [.vr .pl (eT (eT eI)) hall, .vr .pl eI size, .vr .top (eL (eL (eL eI))) v20, .vr .pl eI x28.1, .vr .pl (eT eI) row, .vr .own (eL (eL eI)) here1, .vr .pl eI x28.2, .vr .any (eL eI) ahead, .vr .any (eL eI) above] (ts_nil (v := here1) (wk_eq (wk_eq (wk_eq (wk_no (wk_eq (wk_eq (wk_no (wk_no (wk_no wk_nil)))))))))))))))⟩)) fun (v27 : ((List (List Int)))) => (ts_one (ts_appAP 2 (te_var 5) fun found1 => (at_ [.vr .pl (eT (eT eI)) hall, .vr .pl eI size, .vr .top (eL (eL (eL eI))) found1, .no, .vr .pl (eT eI) row, .vr .any (eL (eL eI)) v27, .no, .no, .no] (ts_nil (v := found1) (wk_eq (wk_eq (wk_eq (wk_no (wk_no (wk_no (wk_no (wk_no (wk_no wk_nil))))))))))))))))⟩)) fun (v20 : ((List (List (List Int))))) => (ts_one (ts_retV 2)))))))
/-- trimmed -/
def g_trimmed (row : (List Int)) (many : Int) : G (List Int) := fnT (τ := Unit) (rtB (cutD row none (some many)))
theorem tf_trimmed {row : (List Int)} {many : Int} {d_0 : D} {d_1 : D} (h_0 : Rp .any (eL eI) row d_0) (h_1 : Rp .any eI many d_1) (s : Sto) : Rf .pl (eT eI) (g_trimmed row many s) (f_trimmed [d_0, d_1] s) := fn_ok (π' := fun _ : Unit => nosP 2) rfl (mt_cons h_0 (mt_cons h_1.plain (mt_nos 0))) (ts_one (ts_retP ((tp_op (pa (tp_op (pa (te_var 0) fun d1 r1 => (pa (te_varP 1) fun d2 r2 => (pa_nil (x_sl01P r1 r2))))) fun d3 r3 => (pa_nil (x_tupL r3))))).plain))
/-- towers_of -/
def g_towers_of (hall : (List (List Int))) : G ((List (List Int)) × (List (List Int))) := fnT (τ := Unit) (eb (g_shapes hall) fun rows => (eb (bd (bd (bd (ixT rows (-(1 : Int))) fun y5 => (pr (cutD y5 (some (1 : Int)) none))) fun z7 => (pr (enumT 0 z7))) fun z16 => mapG z16 (fun x8 => (g_trimmed x8.2 (min (x8.1 + (1 : Int)) (hall.length : Int))))) fun by_customers => (eb (mapG (enumT 0 (cutD rows (some (1 : Int)) none)) (fun x20 => (bd (ixT x20.2 (-(1 : Int))) fun y31 => (bd (bd (bd (ixT hall (0 : Int)) fun y28 => (pr (y28.length : Int))) fun y30 => (pr (min (x20.1 + (1 : Int)) y30))) fun y32 => (g_trimmed y31 y32))))) fun by_counters => (rtB (by_customers, by_counters)))))
end Zm
set_option linter.all false
set_option autoImplicit false
set_option maxRecDepth 100000
/-! GL: reasoning about plain-typed programs. -/
namespace Zm
open PySem
section
variable {α β γ τ τ' ρ : Type} {s s' s1 : Sto} {t : G α} {x : α}
theorem eb_ok {k : α → B τ ρ} (h : t s = .ok x s') : eb t k s = k x s' := by unfold eb; rw [h]
@[simp] theorem eb_pr {k : α → B τ ρ} : eb (pr x) k s = k x s := rfl
@[simp] theorem lt_ap {k : α → B τ ρ} : lt x k s = k x s := rfl
theorem lt_eq {k : α → B τ ρ} : lt x k = k x := rfl
@[simp] theorem bd_pr {k : α → G β} : bd (pr x) k s = k x s := rfl
theorem sq_nx {a : B τ ρ} {k : τ → B τ' ρ} {v : τ} (h : a s = .nx v s') : sq a k s = k v s' := by unfold sq; rw [h]
theorem sq_rt {a : B τ ρ} {k : τ → B τ' ρ} {v : ρ} (h : a s = .rt v s') : sq a k s = .rt v s' := by unfold sq; rw [h]
@[simp] theorem sq_nxB {k : τ → B τ' ρ} {v : τ} : sq (nxB v) k s = k v s := rfl
theorem fnT_rt {b : B τ ρ} {r : ρ} (h : b s = .rt r s') : fnT b s = .ok r s' := by unfold fnT; rw [h]
theorem fnU_nx {b : B τ Unit} {v : τ} (h : b s = .nx v s') : fnU b s = .ok () s' := by unfold fnU; rw [h]
theorem ifB_ok {g : G Bool} {a b : B τ ρ} {z : Bool} (h : g s = .ok z s') : ifB g a b s = if z = true then a s' else b s' := by unfold ifB; rw [eb_ok h]; split <;> rfl
theorem orG_ok {a b : G Bool} {z : Bool} (h : a s = .ok z s') : orG a b s = if z = true then .ok true s' else b s' := by unfold orG; rw [bd_ok h]; split <;> rfl
theorem notG_ok {a : G Bool} {z : Bool} (h : a s = .ok z s') : notG a s = .ok (!z) s' := by unfold notG; rw [bd_ok h]; rfl
theorem orG_ff {a b : G Bool} {z : Bool} (h : a s = .ok false s') (h' : b s' = .ok z s1) : orG a b s = .ok z s1 := by rw [orG_ok h]; simpa using h'
/-! lists -/
theorem szM : (1000000 : Nat) ≤ sizeLine := by decide
theorem szL : (1000000 : Nat) < sizeLine := by decide
theorem ap_ok {xs : List β} {y : β} {k : List β → B τ ρ} (h : xs.length ≤ 1000000) : apB xs y k s = k (xs ++ [y]) s := by
  unfold apB; rw [if_pos (Nat.lt_of_le_of_lt h szL)]
theorem cat_ok {xs ys : List α} (h : xs.length + ys.length ≤ 1000000) : catT xs ys s = .ok (xs ++ ys) s := by
  unfold catT; rw [if_pos (Nat.le_trans h szM)]
theorem map_ok {xs : List α} {f : α → β} (h : xs.length ≤ 1000000) : mapT xs f s = .ok (xs.map f) s := by
  unfold mapT; rw [if_pos (Nat.le_trans h szM)]
theorem fil_ok {xs : List α} {c : α → Bool} {f : α → β} (h : xs.length ≤ 1000000) : filT xs c f s = .ok ((xs.filter c).map f) s := by
  unfold filT; rw [if_pos (Nat.le_trans h szM)]
theorem rep_ok {x : α} {k : Nat} (h : k ≤ 1000) : repT x (k : Int) s = .ok (List.replicate k x) s := by
  unfold repT; rw [if_pos (by omega)]; rfl
theorem ix_get {xs : List α} {i : Nat} {x : α} (h : xs[i]? = some x) : ixT xs (i : Int) s = .ok x s := by
  unfold ixT; rw [atI_nat, h]
theorem ix_int {xs : List α} {j : Int} {i : Nat} {x : α} (hj : j = (i : Int)) (h : xs[i]? = some x) : ixT xs j s = .ok x s := by
  rw [hj]; exact ix_get h
theorem ix_last {xs : List α} {x : α} (h : xs.getLast? = some x) : ixT xs (-1) s = .ok x s := by
  unfold ixT; rw [atI_last, h]
theorem ix_any {xs : List α} {j : Int} (h0 : 0 ≤ j) (h1 : j < xs.length) : ∃ x, ixT xs j s = .ok x s ∧ xs[j.toNat]? = some x ∧ x ∈ xs := by
  have h : j.toNat < xs.length := by omega
  exact ⟨xs[j.toNat], ix_int (i := j.toNat) (by omega) (List.getElem?_eq_getElem h), List.getElem?_eq_getElem h, List.getElem_mem h⟩
theorem range_ok {n : Nat} (h : n ≤ 1000000) : rangeT (n : Int) s = .ok (irg n) s := by
  have hb : big (n : Int) = true := decide_eq_true ⟨by omega, by omega⟩
  unfold rangeT; rw [if_pos hb]; rfl
theorem range_int {j : Int} (h0 : -1000000 ≤ j) (h : j ≤ 1000000) : rangeT j s = .ok (irg j.toNat) s := by
  have hb : big j = true := decide_eq_true ⟨by omega, by omega⟩
  unfold rangeT; rw [if_pos hb]
theorem range2_ok {i j : Int} (h0 : -1000000 ≤ i) (h : i ≤ 1000000) (h2 : -1000000 ≤ j) (h3 : j ≤ 1000000) : rangeT2 i j s = .ok (irg2 i (j - i).toNat) s := by
  have hb : big i = true := decide_eq_true ⟨by omega, by omega⟩
  have hc : big j = true := decide_eq_true ⟨by omega, by omega⟩
  unfold rangeT2; rw [if_pos ⟨hb, hc⟩]
@[simp] theorem irg_len {n : Nat} : (irg n).length = n := by simp [irg]
@[simp] theorem irg2_len {i : Int} {n : Nat} : (irg2 i n).length = n := by simp [irg2]
@[simp] theorem irgD_len {i : Int} {n : Nat} : (irgD i n).length = n := by simp [irgD]
theorem irg_get {n i : Nat} (h : i < n) : (irg n)[i]? = some (i : Int) := by simp [irg, h]
/-- the greatest of a list: what it is -/
def IsMax (xs : List Int) (m : Int) : Prop := m ∈ xs ∧ ∀ y ∈ xs, y ≤ m
def IsMin (xs : List Int) (m : Int) : Prop := m ∈ xs ∧ ∀ y ∈ xs, m ≤ y
theorem IsMax.one {xs : List Int} {m n : Int} (h : IsMax xs m) (h' : IsMax xs n) : m = n := by
  have := h.2 n h'.1; have := h'.2 m h.1; omega
theorem IsMin.one {xs : List Int} {m n : Int} (h : IsMin xs m) (h' : IsMin xs n) : m = n := by
  have := h.2 n h'.1; have := h'.2 m h.1; omega
theorem mul_ok {x y : Int} (h1 : -(2 ^ 250) < x) (h2 : x < 2 ^ 250) (h3 : -(2 ^ 250) < y) (h4 : y < 2 ^ 250) : mulT x y s = .ok (x * y) s := by
  unfold mulT
  rw [if_pos ⟨sm_of (Nat.lt_of_lt_of_le (m := 2 ^ 250) (by omega) (Nat.pow_le_pow_right (by decide) (by decide))), sm_of (Nat.lt_of_lt_of_le (m := 2 ^ 250) (by omega) (Nat.pow_le_pow_right (by decide) (by decide)))⟩]
theorem pow10_ok {k : Nat} (h : k ≤ 1000) : powT 10 (k : Int) s = .ok (10 ^ k) s := by
  unfold powT
  rw [if_pos ⟨by omega, by omega, sm_of (Nat.lt_of_lt_of_le (m := 2 ^ 250) (by decide) (Nat.pow_le_pow_right (by decide) (by decide)))⟩]
  rfl
/-! loops -/
theorem for_nx {f : α → τ → B τ ρ} {x : α} {xs : List α} {v w : τ} (h : f x v s = .nx w s') : forT f (x :: xs) v s = forT f xs w s' := by
  conv => lhs; unfold forT
  rw [h]
theorem for_rt {f : α → τ → B τ ρ} {x : α} {xs : List α} {v : τ} {w : ρ} (h : f x v s = .rt w s') : forT f (x :: xs) v s = .rt w s' := by
  conv => lhs; unfold forT
  rw [h]
theorem lcG_val {c : α → G Bool} {f : α → G β} {g : α → Option β} : ∀ (xs : List α) (acc : List β), acc.length + xs.length ≤ 1000000 → (∀ x ∈ xs, (c x s = .ok false s ∧ g x = none) ∨ ∃ y, c x s = .ok true s ∧ f x s = .ok y s ∧ g x = some y) → lcG c f xs acc s = .ok (acc ++ xs.filterMap g) s
  | [], acc, _, _ => by simp [lcG]
  | x :: xs, acc, hl, h => by
    rw [List.length_cons] at hl
    unfold lcG
    rcases h x (by simp) with ⟨e, e2⟩ | ⟨y, e, e2, e3⟩
    · simp only [e]
      rw [if_neg (by decide), lcG_val xs acc (by omega) fun z hz => h z (by simp [hz])]
      simp [e2]
    · simp only [e, if_true, e2]
      rw [if_pos (by have := szM; omega), lcG_val xs (acc ++ [y]) (by simp; omega) fun z hz => h z (by simp [hz])]
      simp [e3]
theorem mapG_ok {f : α → G β} {g : α → β} {xs : List α} (hl : xs.length ≤ 1000000) (h : ∀ x ∈ xs, f x s = .ok (g x) s) : mapG xs f s = .ok (xs.map g) s := by
  unfold mapG
  rw [lcG_val (c := fun _ => pr true) (g := fun x => some (g x)) xs [] (by simpa using hl) fun x hx => .inr ⟨g x, rfl, h x hx, rfl⟩]
  simp
theorem compG_ok {c : α → G Bool} {f : α → G β} {p : α → Bool} {g : α → β} {xs : List α} (hl : xs.length ≤ 1000000) (h : ∀ x ∈ xs, c x s = .ok (p x) s ∧ (p x = true → f x s = .ok (g x) s)) : compG xs c f s = .ok ((xs.filter p).map g) s := by
  unfold compG
  rw [lcG_val (g := fun x => if p x = true then some (g x) else none) xs [] (by simpa using hl) fun x hx => ?_]
  · congr 1
    simp only [List.nil_append]
    clear h hl
    induction xs with
    | nil => rfl
    | cons x xs ih => by_cases q : p x = true <;> simp [q, ih]
  · obtain ⟨h1, h2⟩ := h x hx
    cases q : p x with
    | false => rw [q] at h1; exact .inl ⟨h1, by simp⟩
    | true => rw [q] at h1; exact .inr ⟨g x, h1, h2 q, by simp⟩
end
/-! ### draws: what a program hands back, whatever is drawn -/
/-- W s n C: the draws' state at n, after at most C draws -/
abbrev DS := Sto → Nat → Nat → Prop
class Dr (W : DS) : Prop where
  mono : ∀ {s n C C'}, W s n C → C ≤ C' → W s n C'
def Gets {α : Type} (W : DS) (n k : Nat) (t : G α) (P : α → Prop) : Prop := ∀ s C, W s n C → C + k ≤ 2 ^ 90 → ∃ x s', t s = .ok x s' ∧ P x ∧ W s' n (C + k)
def GetsB {τ ρ : Type} (W : DS) (n k : Nat) (b : B τ ρ) (P : τ → Prop) (Q : ρ → Prop) : Prop := ∀ s C, W s n C → C + k ≤ 2 ^ 90 →
  (∃ v s', b s = .nx v s' ∧ P v ∧ W s' n (C + k)) ∨ (∃ r s', b s = .rt r s' ∧ Q r ∧ W s' n (C + k))
section
variable {α β τ τ' ρ : Type} {W : DS} [Dr W] {n k k' : Nat} {t : G α} {x : α} {P : α → Prop}
theorem Gets.mono {P' : α → Prop} (h : Gets W n k t P) (hk : k ≤ k') (hp : ∀ x, P x → P' x) : Gets W n k' t P' := fun s C w hc => by
  obtain ⟨x, s', e, p, w'⟩ := h s C w (by omega)
  exact ⟨x, s', e, hp x p, Dr.mono w' (by omega)⟩
theorem gets_eq (h : ∀ s, t s = .ok x s) (p : P x) : Gets W n k t P := fun s C w hc => ⟨x, s, h s, p, Dr.mono w (by omega)⟩
theorem gets_pr (p : P x) : Gets W n k (pr x) P := (gets_eq (fun _ => rfl) p).mono (Nat.zero_le _) fun _ h => h
theorem gets_bd {f : α → G β} {Q : β → Prop} (h : Gets W n k t P) (q : ∀ x, P x → Gets W n (k' - k) (f x) Q) (hk : k ≤ k' := by omega) : Gets W n k' (bd t f) Q := fun s C w hc => by
  obtain ⟨x, s1, e, p, w1⟩ := h s C w (by omega)
  obtain ⟨y, s2, e2, p2, w2⟩ := q x p s1 (C + k) w1 (by omega)
  exact ⟨y, s2, by rw [bd_ok e]; exact e2, p2, by rw [show C + k' = C + k + (k' - k) by omega]; exact w2⟩
theorem gets_bdE {f : α → G β} {Q : β → Prop} (h : ∀ s, t s = .ok x s) (q : Gets W n k (f x) Q) : Gets W n k (bd t f) Q := fun s C w hc => by
  obtain ⟨y, s2, e2, r⟩ := q s C w hc
  exact ⟨y, s2, by rw [bd_ok (h s)]; exact e2, r⟩
theorem gets_fn {b : B τ ρ} {Q : ρ → Prop} (h : GetsB W n k b (fun _ => False) Q) : Gets W n k (fnT b) Q := fun s C w hc => by
  rcases h s C w hc with ⟨_, _, _, f, _⟩ | ⟨r, s', e, q, w'⟩
  · exact f.elim
  · exact ⟨r, s', fnT_rt e, q, w'⟩
theorem GetsB.mono {b : B τ ρ} {P P' : τ → Prop} {Q Q' : ρ → Prop} (h : GetsB W n k b P Q) (hk : k ≤ k') (hp : ∀ x, P x → P' x) (hq : ∀ x, Q x → Q' x) : GetsB W n k' b P' Q' := fun s C w hc => by
  rcases h s C w (by omega) with ⟨v, s', e, p, w'⟩ | ⟨v, s', e, p, w'⟩
  · exact .inl ⟨v, s', e, hp _ p, Dr.mono w' (by omega)⟩
  · exact .inr ⟨v, s', e, hq _ p, Dr.mono w' (by omega)⟩
variable {P : τ → Prop} {Q : ρ → Prop}
theorem gb_nx {v : τ} (p : P v) : GetsB W n k (nxB v) P Q := fun s C w hc => .inl ⟨v, s, rfl, p, Dr.mono w (by omega)⟩
theorem gb_rt {v : ρ} (p : Q v) : GetsB W n k (rtB v) P Q := fun s C w hc => .inr ⟨v, s, rfl, p, Dr.mono w (by omega)⟩
theorem gb_eb {P1 : α → Prop} {f : α → B τ ρ} (h : Gets W n k t P1) (q : ∀ x, P1 x → GetsB W n (k' - k) (f x) P Q) (hk : k ≤ k' := by omega) : GetsB W n k' (eb t f) P Q := fun s C w hc => by
  obtain ⟨x, s1, e, p, w1⟩ := h s C w (by omega)
  have := q x p s1 (C + k) w1 (by omega)
  rw [eb_ok e, show C + k' = C + k + (k' - k) by omega]; exact this
theorem gb_ebE {f : α → B τ ρ} (h : ∀ s, t s = .ok x s) (q : GetsB W n k (f x) P Q) : GetsB W n k (eb t f) P Q := fun s C w hc => by
  rw [eb_ok (h s)]; exact q s C w hc
theorem gb_if {c : Prop} [Decidable c] {a b : B τ ρ} (h1 : c → GetsB W n k a P Q) (h2 : ¬c → GetsB W n k b P Q) : GetsB W n k (if c then a else b) P Q := by
  split
  · exact h1 ‹_›
  · exact h2 ‹_›
/-- a test that is never so -/
theorem gb_ifF {g : G Bool} {a b : B τ ρ} (h : ∀ s, g s = .ok false s) (h1 : GetsB W n k b P Q) : GetsB W n k (ifB g a b) P Q := gb_ebE h h1
theorem gb_sq {b : B τ' ρ} {P1 : τ' → Prop} {f : τ' → B τ ρ} (h : GetsB W n k b P1 Q) (q : ∀ v, P1 v → GetsB W n (k' - k) (f v) P Q) (hk : k ≤ k' := by omega) : GetsB W n k' (sq b f) P Q := fun s C w hc => by
  rcases h s C w (by omega) with ⟨v, s1, e, p, w1⟩ | ⟨r, s1, e, p, w1⟩
  · rw [sq_nx e, show C + k' = C + k + (k' - k) by omega]; exact q v p s1 (C + k) w1 (by omega)
  · exact .inr ⟨r, s1, sq_rt e, p, Dr.mono w1 (by omega)⟩
theorem gb_forI {f : α → τ → B τ ρ} (I : Nat → τ → Prop) : ∀ (xs : List α) (j : Nat) (v : τ), I j v → (∀ i (hi : i < xs.length) v, I (j + i) v → GetsB W n k (f xs[i] v) (I (j + i + 1)) Q) → GetsB W n (k * xs.length) (forT f xs v) (I (j + xs.length)) Q
  | [], j, v, h0, _ => fun s C w hc => .inl ⟨v, s, rfl, h0, by simpa using w⟩
  | x :: xs, j, v, h0, st => fun s C w hc => by
    rw [List.length_cons, Nat.mul_succ] at hc ⊢
    rcases st 0 (by simp) v h0 s C w (by omega) with ⟨v1, s1, e, p, w1⟩ | ⟨r, s1, e, p, w1⟩
    · have ih := gb_forI I xs (j + 1) v1 p (fun i hi v h => by
        have := st (i + 1) (by simpa using hi) v (by rw [show j + (i + 1) = j + 1 + i by omega]; exact h)
        rw [show j + (i + 1) + 1 = j + 1 + i + 1 by omega] at this
        simpa using this) s1 (C + k) w1 (by omega)
      rw [show C + (k * xs.length + k) = C + k + k * xs.length by omega, show j + (xs.length + 1) = j + 1 + xs.length by omega, for_nx (by simpa using e)]
      exact ih
    · exact .inr ⟨r, s1, for_rt (by simpa using e), p, Dr.mono w1 (by omega)⟩
/-- a loop: what holds behind i turns -/
theorem gb_for {f : α → τ → B τ ρ} (I : Nat → τ → Prop) {xs : List α} {v : τ} (h0 : I 0 v) (st : ∀ i (hi : i < xs.length) v, I i v → GetsB W n k (f xs[i] v) (I (i + 1)) Q) : GetsB W n (k * xs.length) (forT f xs v) (I xs.length) Q := by
  have := gb_forI (W := W) (n := n) (k := k) (Q := Q) I xs 0 v h0 fun i hi v h => by simpa using st i hi v (by simpa using h)
  simpa using this
/-- .. of at most N turns -/
theorem gb_forN {f : α → τ → B τ ρ} (I : Nat → τ → Prop) {xs : List α} {v : τ} (k N : Nat) (hN : xs.length ≤ N) (h0 : I 0 v) (st : ∀ i (hi : i < xs.length) v, I i v → GetsB W n k (f xs[i] v) (I (i + 1)) Q) (hP : ∀ v, I xs.length v → P v) (hk : k * N ≤ k' := by omega) : GetsB W n k' (forT f xs v) P Q :=
  (gb_for I h0 st).mono (Nat.le_trans (Nat.mul_le_mul_left _ hN) hk) (fun v h => hP v h) fun _ h => h
theorem gets_mapG {f : β → G α} {P : α → Prop} (k N : Nat) {xs : List β} (hl : xs.length ≤ N) (hN : N ≤ 1000000) (h : ∀ x ∈ xs, Gets W n k (f x) P) (hk : k * N ≤ k' := by omega) : Gets W n k' (mapG xs f) (fun ys => ys.length = xs.length ∧ ∀ y ∈ ys, P y) := by
  have key : ∀ (zs : List β) (acc : List α), (∀ x ∈ zs, Gets W n k (f x) P) → acc.length + zs.length ≤ 1000000 → (∀ y ∈ acc, P y) → Gets W n (k * zs.length) (fun s => lcG (fun _ => pr true) f zs acc s) (fun ys => ys.length = acc.length + zs.length ∧ ∀ y ∈ ys, P y) := by
    intro zs
    induction zs with
    | nil => exact fun acc _ _ ha s C w hc => ⟨acc, s, rfl, ⟨by simp, ha⟩, by simpa using w⟩
    | cons z zs ih =>
      intro acc hz hl ha s C w hc
      rw [List.length_cons, Nat.mul_succ] at hc
      rw [List.length_cons] at hl
      obtain ⟨y, s1, e, p, w1⟩ := hz z (by simp) s C w (by omega)
      obtain ⟨ys, s2, e2, ⟨p1, p2⟩, w2⟩ := ih (acc ++ [y]) (fun x hx => hz x (by simp [hx])) (by simp; omega) (fun u hu => by
        rcases List.mem_append.mp hu with q | q
        · exact ha u q
        · simp at q; subst q; exact p) s1 (C + k) w1 (by omega)
      refine ⟨ys, s2, ?_, ⟨by rw [p1]; simp; omega, p2⟩, by rw [List.length_cons, Nat.mul_succ, show C + (k * zs.length + k) = C + k + k * zs.length by omega]; exact w2⟩
      show lcG _ _ _ _ _ = _
      unfold lcG
      simp only [pr_ap, if_true, e]
      rw [if_pos (by have := szM; omega)]
      exact e2
  have := key xs [] h (by simpa using Nat.le_trans hl hN) (by simp)
  refine Gets.mono (P := fun ys => ys.length = 0 + xs.length ∧ ∀ y ∈ ys, P y) this (Nat.le_trans (Nat.mul_le_mul_left _ hl) hk) fun ys hy => ⟨by omega, hy.2⟩
end
/-- without a draw, the store as it is -/
def Ps {α : Type} (t : G α) (P : α → Prop) : Prop := ∀ s, ∃ x, t s = .ok x s ∧ P x
theorem Ps.mono {α : Type} {t : G α} {P P' : α → Prop} (h : Ps t P) (q : ∀ x, P x → P' x) : Ps t P' := fun s => by
  obtain ⟨x, e, p⟩ := h s
  exact ⟨x, e, q x p⟩
/-- one that there is just one of -/
theorem Ps.one {α : Type} {t : G α} {P : α → Prop} {x : α} (h : Ps t P) (u : ∀ y, P y → y = x) (s : Sto) : t s = .ok x s := by
  obtain ⟨y, e, p⟩ := h s
  rw [u y p] at e; exact e
def PsB {τ ρ : Type} (b : B τ ρ) (P : τ → Prop) (Q : ρ → Prop) : Prop := ∀ s, (∃ v, b s = .nx v s ∧ P v) ∨ ∃ r, b s = .rt r s ∧ Q r
section
variable {α β τ τ' ρ : Type} {t : G α} {P : τ → Prop} {Q : ρ → Prop}
theorem ps_fn {b : B τ ρ} (h : PsB b (fun _ => False) Q) : Ps (fnT b) Q := fun s => by
  rcases h s with ⟨_, _, f⟩ | ⟨r, e, q⟩
  · exact f.elim
  · exact ⟨r, fnT_rt e, q⟩
theorem pb_nx {v : τ} (p : P v) : PsB (nxB v) P Q := fun s => .inl ⟨v, rfl, p⟩
theorem pb_rt {v : ρ} (p : Q v) : PsB (rtB v) P Q := fun s => .inr ⟨v, rfl, p⟩
theorem pb_lt {x : α} {f : α → B τ ρ} (h : PsB (f x) P Q) : PsB (lt x f) P Q := h
theorem pb_eb {P1 : α → Prop} {f : α → B τ ρ} (h : Ps t P1) (q : ∀ x, P1 x → PsB (f x) P Q) : PsB (eb t f) P Q := fun s => by
  obtain ⟨x, e, p⟩ := h s
  rw [eb_ok e]; exact q x p s
theorem pb_ebE {x : α} {f : α → B τ ρ} (h : ∀ s, t s = .ok x s) (q : PsB (f x) P Q) : PsB (eb t f) P Q := fun s => by
  rw [eb_ok (h s)]; exact q s
theorem pb_ap {xs : List β} {y : β} {f : List β → B τ ρ} (hl : xs.length ≤ 1000000) (q : PsB (f (xs ++ [y])) P Q) : PsB (apB xs y f) P Q := fun s => by
  rw [ap_ok hl]; exact q s
theorem pb_if {c : Prop} [Decidable c] {a b : B τ ρ} (h1 : c → PsB a P Q) (h2 : ¬c → PsB b P Q) : PsB (if c then a else b) P Q := by
  split
  · exact h1 ‹_›
  · exact h2 ‹_›
theorem pb_f {c : Prop} [Decidable c] {a b : B τ ρ} (hc : ¬c) (h2 : PsB b P Q) : PsB (if c then a else b) P Q := by rw [if_neg hc]; exact h2
theorem pb_t {c : Prop} [Decidable c] {a b : B τ ρ} (hc : c) (h2 : PsB a P Q) : PsB (if c then a else b) P Q := by rw [if_pos hc]; exact h2
theorem pb_sq {b : B τ' ρ} {P1 : τ' → Prop} {f : τ' → B τ ρ} (h : PsB b P1 Q) (q : ∀ v, P1 v → PsB (f v) P Q) : PsB (sq b f) P Q := fun s => by
  rcases h s with ⟨v, e, p⟩ | ⟨r, e, p⟩
  · rw [sq_nx e]; exact q v p s
  · exact .inr ⟨r, sq_rt e, p⟩
theorem pb_for {f : α → τ → B τ ρ} (I : Nat → τ → Prop) {xs : List α} {v : τ} (h0 : I 0 v) (st : ∀ i (hi : i < xs.length) v, I i v → PsB (f xs[i] v) (I (i + 1)) Q) (hP : ∀ v, I xs.length v → P v) : PsB (forT f xs v) P Q := by
  have key : ∀ (xs : List α) (j : Nat) (v : τ), I j v → (∀ i (hi : i < xs.length) v, I (j + i) v → PsB (f xs[i] v) (I (j + i + 1)) Q) → PsB (forT f xs v) (I (j + xs.length)) Q := by
    intro xs
    induction xs with
    | nil => exact fun j v h _ s => .inl ⟨v, rfl, h⟩
    | cons x xs ih =>
      intro j v h st s
      rcases st 0 (by simp) v h s with ⟨v1, e, p⟩ | ⟨r, e, p⟩
      · have := ih (j + 1) v1 p (fun i hi v h => by
          have := st (i + 1) (by simpa using hi) v (by rw [show j + (i + 1) = j + 1 + i by omega]; exact h)
          rw [show j + (i + 1) + 1 = j + 1 + i + 1 by omega] at this
          simpa using this) s
        rw [for_nx (by simpa using e), List.length_cons, show j + (xs.length + 1) = j + 1 + xs.length by omega]
        exact this
      · exact .inr ⟨r, for_rt (by simpa using e), p⟩
  intro s
  rcases key xs 0 v h0 (fun i hi v h => by simpa using st i hi v (by simpa using h)) s with ⟨v, e, p⟩ | q
  · exact .inl ⟨v, e, hP v (by simpa using p)⟩
  · exact .inr q
end
/-! a law -/
/-- nothing is drawn -/
def W0t : DS := fun _ _ _ => True
instance : Dr W0t := ⟨fun _ _ => trivial⟩
theorem gb_new {τ ρ : Type} {W : DS} {K m k : Nat} {t : G Nat} {f : Nat → B τ ρ} {P : τ → Prop} {Q : ρ → Prop} (h : ∀ s, ∃ n s', t s = .ok n s' ∧ W s' n 0) (q : ∀ n, GetsB W n K (f n) P Q) (hK : K ≤ 2 ^ 90 := by decide) : GetsB W0t m k (eb t f) P Q := fun s C w hc => by
  obtain ⟨n, s1, e, w1⟩ := h s
  rw [eb_ok e]
  rcases q n s1 0 w1 (by omega) with ⟨v, s2, e2, p, _⟩ | ⟨v, s2, e2, p, _⟩
  · exact .inl ⟨v, s2, e2, p, trivial⟩
  · exact .inr ⟨v, s2, e2, p, trivial⟩
theorem good_of {g : List Int → G Bool} {f : Fn} (tf : ∀ ns s, Rf .pl eB (g ns s) (f [.ro ns] s)) (h : ∀ ns, Gets W0t 0 0 (g ns) (fun z => z = true)) : ∀ ns : List Int, ns.length ≤ 63 → ∃ s, f [.ro ns] [] = .ok (.bl true) s := fun ns _ => by
  obtain ⟨z, s, e, hz, _⟩ := h ns [] 0 trivial (by decide)
  subst hz
  have := tf ns []
  rw [e] at this
  obtain ⟨d, h1, h2⟩ := this
  rw [h2.bl] at h1
  exact ⟨s, h1⟩
theorem rp_ro (ns : List Int) : Rp .any eRo ns (.ro ns) := ⟨rfl, trivial⟩
end Zm
set_option linter.all false
set_option autoImplicit false
set_option maxRecDepth 100000
namespace Zm
open PySem
--@ _law_dip
def Well (s : Sto) (n C : Nat) : Prop := ∃ a b c : Int, s[n]? = some [.int a, .int b, .int c] ∧ 0 ≤ a ∧ 0 ≤ b ∧ b < 2 ^ 140 ∧ 0 ≤ c ∧ c ≤ C
theorem Well.mono {s : Sto} {n C C' : Nat} (h : Well s n C) (hc : C ≤ C') : Well s n C' := by
  obtain ⟨a, b, c, e, h1, h2, h3, h4, h5⟩ := h
  exact ⟨a, b, c, e, h1, h2, h3, h4, by omega⟩
theorem ix_box {s : Sto} {n : Nat} {xs : List D} {i : Int} {d : D} (h : s[n]? = some xs) (e : L2.atI xs i = some d) : gIx s [.box n, .int i] = some d := by
  show (s[n]?).bind _ = _
  rw [h]; exact e
theorem at3_0 {x y z : D} : L2.atI [x, y, z] 0 = some x := rfl
theorem at3_1 {x y z : D} : L2.atI [x, y, z] 1 = some y := rfl
theorem at3_2 {x y z : D} : L2.atI [x, y, z] 2 = some z := rfl
theorem sm_lt {i : Int} (h1 : -(2 ^ 250) < i) (h2 : i < 2 ^ 250) : sm i = true := by
  refine sm_of (Nat.lt_of_lt_of_le (m := 2 ^ 250) (by omega) (Nat.pow_le_pow_right (by decide) (by decide)))
theorem pow_s (s : Sto) (x k : Int) (h0 : 0 ≤ k) (hk : k ≤ 1000) (h1 : -(2 ^ 250) < x) (h2 : x < 2 ^ 250) : gPow s [.int x, .int k] = some (.int (x ^ k.toNat)) := by
  simp only [gPow]
  rw [if_pos ⟨h0, hk, sm_lt h1 h2⟩]
theorem p10 (s : Sto) (k : Int) (h0 : 0 ≤ k) (hk : k ≤ 1000) : gPow s [.int 10, .int k] = some (.int (10 ^ k.toNat)) := pow_s s 10 k h0 hk (by decide) (by decide)
theorem mul_s (s : Sto) (x y : Int) (h1 : -(2 ^ 250) < x) (h2 : x < 2 ^ 250) (h3 : -(2 ^ 250) < y) (h4 : y < 2 ^ 250) : gMul s [.int x, .int y] = some (.int (x * y)) := by
  simp only [gMul]
  rw [if_pos ⟨sm_lt h1 h2, sm_lt h3 h4⟩]
theorem div_s (s : Sto) (x y : Int) (h : 0 < y) (h' : y < 2 ^ 250) : gDiv s [.int x, .int y] = some (.int (x / y)) := by
  simp only [gDiv]
  rw [if_pos ⟨h, sm_lt (by omega) h'⟩]
--@ loops
theorem lc_map {tg : Tg} {m : M} {σ : Env} {s : Sto} (g : D → D) : ∀ (ds acc : List D), (∀ d ∈ ds, ∃ σ1, tg.bind d σ = some σ1 ∧ m σ1 s = .ok (g d) s) → acc.length + ds.length ≤ sizeLine →
    lcR tg tTrue m σ ds acc s = .ok (.lst true (acc ++ ds.map g)) s
  | [], acc, _, _ => by simp [lcR]
  | d :: ds, acc, h, hl => by
    obtain ⟨σ1, e1, e2⟩ := h d (by simp)
    rw [List.length_cons] at hl
    unfold lcR
    simp only [e1, tTrue, e2, if_true]
    rw [if_pos (by omega), lc_map g ds (acc ++ [g d]) (fun d hd => h d (List.mem_cons_of_mem _ hd)) (by simp; omega)]
    simp
theorem mLc_map {src : Src} {tg : Tg} {vs : List Nat} {m : M} {σ : Env} {s s' : Sto} {ds : List D} (g : D → D) (h : src σ s = .ok ds s') (hw : tg.within vs = true) (hm : ∀ d ∈ ds, ∃ σ1, tg.bind d (wipeE (fzE σ) vs) = some σ1 ∧ m σ1 s' = .ok (g d) s') (hl : ds.length ≤ 1000000) :
    mLc src tg vs tTrue m σ s = .ok (.lst true (ds.map g)) s' := by
  have := lc_map (tg := tg) (m := m) g ds [] hm (by simpa using Nat.le_trans hl szl)
  simp only [mLc, h, R.bind_ok, hw, if_true, this, List.nil_append]
theorem rng_length {lo hi st : Int} {n : Nat} : (rng lo hi st n).length = n := by simp [rng]
theorem iR1_ok {ms : List M} {σ : Env} {s s' : Sto} {j : Int} (h : mArgs ms σ s = .ok [.int j] s') (h1 : -(2 ^ 62) ≤ j) (h2 : j < 2 ^ 62) : iR1 ms σ s = .ok (rng 0 j 1 j.toNat) s' := by
  have hb : big j = true := decide_eq_true ⟨h1, h2⟩
  simp only [iR1, h, R.bind_ok]
  rw [if_pos hb]
theorem mkFn_rt {np ns : Nat} {body : MS} {ds : List D} {s s' : Sto} {d : D} (hl : ds.length = np) (h : body (ds.map some ++ List.replicate (ns - np) none) s = .rt d s') : mkFn np ns body ds s = .ok d s' := by
  simp only [mkFn, if_pos hl, h]
--@ _law_well
theorem sl3 : 3 ≤ sizeLine := by decide
--@ _law_hall
def rowD (r : List Int) : D := .tup (r.map D.int)
def hallD (h : List (List Int)) : D := .tup (h.map rowD)
def Nn (r : List Int) : Prop := ∀ x ∈ r, 0 ≤ x
@[simp] theorem fz_rows : ∀ h : List (List Int), fzs (h.map rowD) = h.map rowD
  | [] => rfl
  | r :: h => by simp [fz_rows h, rowD]
@[simp] theorem noF_rows : ∀ h : List (List Int), noFs (h.map rowD) = true
  | [] => rfl
  | r :: h => by simp [noF_rows h, rowD]
@[simp] theorem plain_rows : ∀ h : List (List Int), plains (h.map rowD) = true
  | [] => rfl
  | r :: h => by simp [plain_rows h, rowD]
@[simp] theorem fz_hall (h : List (List Int)) : fz (hallD h) = hallD h := by simp [hallD, fz_rows]
@[simp] theorem noF_hall (h : List (List Int)) : noF (hallD h) = true := by simp [hallD, noF_rows]
structure HallOK (h : List (List Int)) (m : Nat) : Prop where
  l1 : 1 ≤ h.length
  l8 : h.length ≤ 8
  m1 : 1 ≤ m
  m8 : m ≤ 8
  row : ∀ r ∈ h, r.length = m ∧ Nn r
--@ _law_times
structure DayOK (t : List Int) (m : Nat) : Prop where
  len : t.length = m
  nn : Nn t
  up : t.Pairwise (· ≤ ·)
--@ is_whole is_amount is_row is_hall need_hall
theorem amount_int (i : Int) (s : Sto) : f_is_amount [.int i] s = .ok (.bl (decide (0 ≤ i))) s := rfl
theorem toBls_true : ∀ n : Nat, toBls (List.replicate n (.bl true)) = some (List.replicate n true)
  | 0 => rfl
  | n + 1 => by simp [List.replicate_succ, toBls, toBls_true n]
theorem map_const {α β : Type} (b : β) : ∀ l : List α, l.map (fun _ => b) = List.replicate l.length b
  | [] => rfl
  | x :: l => by simp [List.replicate_succ, map_const b l]
theorem gAll_true {s : Sto} {o : Bool} (n : Nat) : gAll s [.lst o (List.replicate n (.bl true))] = some (.bl true) := by
  simp [gAll, toBls_true]
@[simp] theorem fz_row (r : List Int) : fz (rowD r) = rowD r := by simp [rowD]
theorem items_row (r : List Int) : itemsOf (rowD r) = some (r.map D.int) := by simp [itemsOf, rowD]
theorem items_hall (h : List (List Int)) : itemsOf (hallD h) = some (h.map rowD) := by simp [itemsOf, hallD]
theorem iSeq_ok {m : M} {σ : Env} {s s' : Sto} {d : D} {ds : List D} (h : m σ s = .ok d s') (hd : itemsOf d = some ds) : iSeq m σ s = .ok ds s' := by
  simp only [iSeq, h, R.bind_ok]
  cases d <;> simp_all [itemsOf]
theorem row_ok {r : List Int} {m : Nat} (hl : r.length = m) (hn : Nn r) (hz : r.length ≤ 1000000) (s : Sto) : f_is_row [rowD r, .int (m : Nat)] s = .ok (.bl true) s := by
  have key : f_is_row_c1 [some (rowD r), some (.int (m : Nat)), none] s = .ok (.lst true (List.replicate r.length (.bl true))) s := by
    have := mLc_map (src := iSeq (mVar 0)) (tg := .nm 2) (vs := [2]) (m := mCall f_is_amount [mVar 2]) (σ := [some (rowD r), some (.int (m : Nat)), none]) (s := s) (s' := s) (ds := r.map D.int) (fun _ => .bl true) (iSeq_ok (by simp) (items_row r)) rfl (fun d hd => by
      obtain ⟨x, hx, rfl⟩ := List.mem_map.mp hd
      exact ⟨_, rfl, by simp [amount_int, hn x hx]⟩) (by simpa using hz)
    rwa [map_const, List.length_map] at this
  refine mkFn_rt rfl ?_
  have e1 : gLen s [rowD r] = some (.int (m : Nat)) := by simp [rowD, hl]
  have e2 : gIsi s [rowD r, .ty "tuple"] = some (.bl true) := by simp [rowD]
  simp only [mRet, mAnd, mOp, mArgs, mVar, mC, List.map_cons, List.map_nil, List.cons_append, List.nil_append, List.getElem?_cons_zero, List.getElem?_cons_succ, fz, fz_row, R.bind_ok, R.of_some, R.to_ok, e1, e2, eq_t (Cmp.int _) (Cmp.int _), show List.replicate (3 - 2) (none : Option D) = [none] from rfl, key, gAll_true]
theorem gIx_h {s : Sto} {h : List (List Int)} {r : List Int} (e : h.head? = some r) : gIx s [hallD h, .int 0] = some (rowD r) := by
  cases h with
  | nil => cases e
  | cons x h =>
    have : x = r := by simpa using e
    subst this
    exact (show gIx s [hallD (x :: h), .int 0] = L2.atI (rowD x :: h.map rowD) 0 from rfl).trans (atI_zero.trans rfl)
theorem hall_is {h : List (List Int)} {m : Nat} (H : HallOK h m) (s : Sto) : f_is_hall [hallD h] s = .ok (.bl true) s := by
  obtain ⟨r0, e0⟩ : ∃ r, h.head? = some r := by
    cases h with
    | nil => have := H.l1; simp at this
    | cons x h => exact ⟨x, rfl⟩
  have hr0 : r0 ∈ h := List.mem_of_head? e0
  have hm := (H.row r0 hr0).1
  have g0 : gIx s [hallD h, .int 0] = some (rowD r0) := gIx_h e0
  have g1 : gLen s [rowD r0] = some (.int (m : Nat)) := by simp [rowD, hm]
  have g2 : gIsi s [hallD h, .ty "tuple"] = some (.bl true) := by simp [hallD]
  have g3 : gIsi s [rowD r0, .ty "tuple"] = some (.bl true) := by simp [rowD]
  have g4 : gLen s [hallD h] = some (.int (h.length : Nat)) := by simp [hallD]
  have key : f_is_hall_c1 [some (hallD h), none] s = .ok (.lst true (List.replicate h.length (.bl true))) s := by
    have := mLc_map (src := iSeq (mVar 0)) (tg := .nm 1) (vs := [1]) (m := mCall f_is_row [mVar 1, mOp gLen [mOp gIx [mVar 0, mC (.int 0)]]]) (σ := [some (hallD h), none]) (s := s) (s' := s) (ds := h.map rowD) (fun _ => .bl true) (iSeq_ok (by simp) (items_hall h)) rfl (fun d hd => by
      obtain ⟨r, hr, rfl⟩ := List.mem_map.mp hd
      refine ⟨_, rfl, ?_⟩
      have := row_ok (H.row r hr).1 (H.row r hr).2 (by have := (H.row r hr).1; have := H.m8; omega) s
      simp [-gLen, g0, g1, this]) (by have := H.l8; rw [List.length_map]; omega)
    rwa [map_const, List.length_map] at this
  have c1 : gLe s [.int 1, .int (h.length : Nat)] = some (.bl true) := by have := H.l1; simp; omega
  have c2 : gLe s [.int (h.length : Nat), .int 8] = some (.bl true) := by have := H.l8; simp; omega
  have c3 : gLe s [.int 1, .int (m : Nat)] = some (.bl true) := by have := H.m1; simp; omega
  have c4 : gLe s [.int (m : Nat), .int 8] = some (.bl true) := by have := H.m8; simp; omega
  refine mkFn_rt rfl ?_
  simp [-gLen, -gLe, -gIsi, mChain, g0, g1, g2, g3, g4, c1, c2, c3, c4, key, gAll_true]
--@ are_times need_day
--@ left_at leavings_of leavings
def leftFrom (free : Int) : List Int → List Int → List Int
  | a :: row, t :: ts => (max free t + a) :: leftFrom (max free t + a) row ts
  | _, _ => []
theorem leftFrom_len : ∀ (row ts : List Int) (free : Int), row.length = ts.length → (leftFrom free row ts).length = row.length
  | [], _, _, _ => rfl
  | a :: row, [], _, h => by simp at h
  | a :: row, t :: ts, free, h => by simp [leftFrom, leftFrom_len row ts _ (by simpa using h)]
def leftAt (row ts : List Int) : List Int := leftFrom 0 row ts
def leavFrom : List (List Int) → List Int → List (List Int)
  | [], _ => []
  | row :: h, t => leftAt row t :: leavFrom h (leftAt row t)
def lolD (o o' : Bool) (h : List (List Int)) : D := .lst o (h.map fun r => .lst o' (r.map D.int))
@[simp] theorem fz_lol (o o' : Bool) (h : List (List Int)) : fz (lolD o o' h) = lolD false false h := by
  unfold lolD
  rw [fz, fzs_eq, List.map_map]
  congr 1
  exact List.map_congr_left fun r _ => by simp
theorem HallOK.r6 {h : List (List Int)} {m : Nat} (H : HallOK h m) : ∀ r ∈ h, r.length ≤ 1000000 := fun r hr => by have := (H.row r hr).1; have := H.m8; omega
--@ last
--@ waits
end Zm
set_option linter.all false
set_option autoImplicit false
set_option maxRecDepth 100000
/-! GS: what the shared typed programs hand back. -/
namespace Zm
open PySem
--@ draws
instance : Dr Well := ⟨fun h hc => h.mono hc⟩
--@ halls and days
--@ judged
theorem is_hall_T {h : List (List Int)} {m : Nat} (H : HallOK h m) (s : Sto) : g_is_hall ((eT (eT eI)).f h) s = .ok true s := by
  have := hall_is H s
  unfold g_is_hall
  rw [(eT (eT eI)).h]
  show (match f_is_hall [hallD h] s with
    | .ok (.bl r) s => R.ok r s
    | .ex x s => .ex x s
    | _ => .bad) = _
  rw [this]
theorem need_hall_T {h : List (List Int)} {m : Nat} (H : HallOK h m) (s : Sto) : g_need_hall h s = .ok () s := by
  unfold g_need_hall
  exact fnU_nx (v := ()) (by rw [ifB_ok (notG_ok (is_hall_T H s))]; rfl)
theorem head_T {h : List (List Int)} {m : Nat} (H : HallOK h m) (s : Sto) : ∃ r, ixT h 0 s = .ok r s ∧ r.length = m ∧ h[0]? = some r := by
  have := H.l1
  have e : h[0]? = some h[0] := List.getElem?_eq_getElem (by omega)
  exact ⟨h[0], ix_get e, (H.row _ (List.getElem_mem _)).1, e⟩
theorem many_T {h : List (List Int)} {m : Nat} (H : HallOK h m) (s : Sto) : bd (ixT h 0) (fun y => pr (y.length : Int)) s = .ok (m : Int) s := by
  obtain ⟨r, e, hl, _⟩ := head_T H s
  rw [bd_ok e, hl]; rfl
--@ leavings
end Zm
set_option linter.all false
set_option autoImplicit false
set_option maxRecDepth 100000
namespace Zm
open PySem
def diffs (a b : List Int) : List Int := List.zipWith (fun x y => y - x) a b
def overL : List (List Int) → List (List Int) → List Int
  | a :: as, b :: bs => diffs a b ++ overL as bs
  | _, _ => []
/-! the plain law of leavings -/
inductive Btw (c : Int) : List Int → List Int → Prop
  | nil : Btw c [] []
  | cons {a b : Int} {as bs : List Int} : a ≤ b → b ≤ a + c → Btw c as bs → Btw c (a :: as) (b :: bs)
theorem Btw.refl {c : Int} (h : 0 ≤ c) : ∀ l, Btw c l l
  | [] => .nil
  | x :: l => .cons (by omega) (by omega) (Btw.refl h l)
theorem Btw.len {c : Int} {as bs : List Int} (h : Btw c as bs) : as.length = bs.length := by induction h <;> simp_all
theorem Btw.left {c : Int} (hc : 0 ≤ c) {ts us : List Int} (h : Btw c ts us) : ∀ {row : List Int} {f g : Int}, f ≤ g → g ≤ f + c → Btw c (leftFrom f row ts) (leftFrom g row us) := by
  induction h with
  | nil => intro row f g _ _; cases row <;> exact .nil
  | cons h1 h2 _ ih =>
    intro row f g h3 h4
    cases row with
    | nil => exact .nil
    | cons a row => exact .cons (by omega) (by omega) (ih (by omega) (by omega))
inductive BtwL (c : Int) : List (List Int) → List (List Int) → Prop
  | nil : BtwL c [] []
  | cons {a b : List Int} {as bs : List (List Int)} : Btw c a b → BtwL c as bs → BtwL c (a :: as) (b :: bs)
theorem Btw.diffs {c : Int} {a b : List Int} (h : Btw c a b) : ∀ x ∈ diffs a b, 0 ≤ x ∧ x ≤ c := by
  induction h with
  | nil => intro x hx; simp [Zm.diffs] at hx
  | cons h1 h2 _ ih =>
    intro x hx
    simp only [Zm.diffs, List.zipWith_cons_cons, List.mem_cons] at hx
    rcases hx with rfl | hx
    · omega
    · exact ih x hx
theorem BtwL.over {c : Int} {as bs : List (List Int)} (h : BtwL c as bs) : ∀ x ∈ overL as bs, 0 ≤ x ∧ x ≤ c := by
  induction h with
  | nil => intro x hx; simp [overL] at hx
  | cons h1 _ ih =>
    intro x hx
    simp only [overL, List.mem_append] at hx
    rcases hx with hx | hx
    · exact h1.diffs x hx
    · exact ih x hx
/-! only what is ahead counts -/
/-- the times at which those come who come to the last of h -/
def inTo : List (List Int) → List Int → List Int
  | [], ts => ts
  | r :: h, ts => inTo h (leftAt r ts)
theorem left_nn : ∀ (row ts : List Int) (f : Int), 0 ≤ f → Nn row → Nn (leftFrom f row ts)
  | [], _, _, _, _ => by intro x hx; simp [leftFrom] at hx
  | _ :: _, [], _, _, _ => by intro x hx; simp [leftFrom] at hx
  | a :: row, t :: ts, f, hf, hn => by
    have ha := hn a (by simp)
    intro x hx
    simp only [leftFrom, List.mem_cons] at hx
    rcases hx with rfl | hx
    · omega
    · exact left_nn row ts _ (by omega) (fun y hy => hn y (by simp [hy])) x hx
/-! all later -/
/-! the later of two days -/
/-! between two who leave -/
/-! more minutes at one cell -/
theorem BtwL.refl {c : Int} (h : 0 ≤ c) : ∀ l, BtwL c l l
  | [] => .nil
  | x :: l => .cons (Btw.refl h x) (BtwL.refl h l)
end Zm
set_option linter.all false
set_option autoImplicit false
/-! LPP: ways over cells, worths, the greatest: plain Lean, no program in sight. -/
namespace Lpp
/-- a way from a cell to a cell, of that worth -/
inductive Way (w : Nat → Nat → Int) : Nat → Nat → Nat → Nat → Int → Prop
  | one (i k : Nat) : Way w i k i k (w i k)
  | down {i k j l : Nat} {W : Int} : Way w i k j l W → Way w i k (j + 1) l (W + w (j + 1) l)
  | right {i k j l : Nat} {W : Int} : Way w i k j l W → Way w i k j (l + 1) (W + w j (l + 1))
section
variable {w v : Nat → Nat → Int} {i k j l n m : Nat} {W : Int}
theorem Way.le (h : Way w i k j l W) : i ≤ j ∧ k ≤ l := by induction h <;> omega
theorem Way.cons_down (h : Way w (i + 1) k j l W) : Way w i k j l (w i k + W) := by
  induction h with
  | one => exact .down (.one i k)
  | down _ ih => have := Way.down ih; rw [Int.add_assoc] at this; exact this
  | right _ ih => have := Way.right ih; rw [Int.add_assoc] at this; exact this
theorem Way.cons_right (h : Way w i (k + 1) j l W) : Way w i k j l (w i k + W) := by
  induction h with
  | one => exact .right (.one i k)
  | down _ ih => have := Way.down ih; rw [Int.add_assoc] at this; exact this
  | right _ ih => have := Way.right ih; rw [Int.add_assoc] at this; exact this
/-- read from the end: cells (n - i, m - k) -/
theorem Way.back (hv : ∀ a b, a ≤ n → b ≤ m → v (n - a) (m - b) = w a b) (h : Way w i k j l W) : j ≤ n → l ≤ m → Way v (n - j) (m - l) (n - i) (m - k) W := by
  induction h with
  | one => intro h1 h2; rw [← hv i k h1 h2]; exact .one _ _
  | @down j l W h' ih =>
    intro h1 h2
    have := ih (by omega) h2
    rw [show n - j = (n - (j + 1)) + 1 by omega] at this
    have := this.cons_down
    rwa [hv (j + 1) l h1 h2, Int.add_comm] at this
  | @right j l W h' ih =>
    intro h1 h2
    have := ih h1 (by omega)
    rw [show m - l = (m - (l + 1)) + 1 by omega] at this
    have := this.cons_right
    rwa [hv j (l + 1) h1 h2, Int.add_comm] at this
/-- the greatest worth -/
structure Top (w : Nat → Nat → Int) (i k j l : Nat) (G : Int) : Prop where
  is : Way w i k j l G
  le : ∀ W, Way w i k j l W → W ≤ G
theorem Top.one {G G' : Int} (h : Top w i k j l G) (h' : Top w i k j l G') : G = G' := by
  have := h.le _ h'.is; have := h'.le _ h.is; omega
/-- the last step of a way -/
theorem Way.cases_last (h : Way w i k j l W) : (i = j ∧ k = l ∧ W = w j l) ∨ (∃ j' U, j = j' + 1 ∧ Way w i k j' l U ∧ W = U + w j l) ∨ (∃ l' U, l = l' + 1 ∧ Way w i k j l' U ∧ W = U + w j l) := by
  cases h with
  | one => exact .inl ⟨rfl, rfl, rfl⟩
  | down h => exact .inr (.inl ⟨_, _, rfl, h, rfl⟩)
  | right h => exact .inr (.inr ⟨_, _, rfl, h, rfl⟩)
/-- the table from a first column on: X is the greatest of all ways from (0, f), f from F on, with what those come with -/
structure Lv (w : Nat → Nat → Int) (T : Nat → Int) (j l : Nat) (X : Int) : Prop where
  is : ∃ f W, Way w 0 f j l W ∧ X = T f + W
  le : ∀ f W, Way w 0 f j l W → T f + W ≤ X
theorem Lv.one {T : Nat → Int} {X Y : Int} (h : Lv w T j l X) (h' : Lv w T j l Y) : X = Y := by
  obtain ⟨f, W, a, rfl⟩ := h.is
  obtain ⟨g, V, b, rfl⟩ := h'.is
  have := h.le _ _ b; have := h'.le _ _ a; omega
theorem Lv.first {T : Nat → Int} : Lv w T 0 0 (T 0 + w 0 0) := by
  refine ⟨⟨0, _, .one 0 0, rfl⟩, fun f W h => ?_⟩
  have := h.le
  rcases h.cases_last with ⟨_, e, rfl⟩ | ⟨_, _, e, _⟩ | ⟨_, _, e, _⟩
  · rw [e]; omega
  · omega
  · omega
theorem Lv.top {T : Nat → Int} {X : Int} (h : Lv w T 0 l X) : Lv w T 0 (l + 1) (max X (T (l + 1)) + w 0 (l + 1)) := by
  refine ⟨?_, fun f W q => ?_⟩
  · obtain ⟨f, W, a, rfl⟩ := h.is
    by_cases c : T f + W ≤ T (l + 1)
    · exact ⟨l + 1, _, .one _ _, by omega⟩
    · exact ⟨f, _, .right a, by omega⟩
  · rcases q.cases_last with ⟨_, rfl, rfl⟩ | ⟨_, _, e, _⟩ | ⟨l', U, e, a, rfl⟩
    · omega
    · omega
    · have : l' = l := by omega
      subst this
      have := h.le _ _ a; omega
theorem Lv.side {T : Nat → Int} {X : Int} (h : Lv w T j 0 X) : Lv w T (j + 1) 0 (X + w (j + 1) 0) := by
  refine ⟨?_, fun f W q => ?_⟩
  · obtain ⟨f, W, a, rfl⟩ := h.is
    exact ⟨f, _, .down a, by omega⟩
  · rcases q.cases_last with ⟨e, _⟩ | ⟨j', U, e, a, rfl⟩ | ⟨_, _, e, _⟩
    · omega
    · have : j' = j := by omega
      subst this
      have := h.le _ _ a; omega
    · omega
theorem Lv.step {T : Nat → Int} {X Y : Int} (h : Lv w T j (l + 1) X) (h' : Lv w T (j + 1) l Y) : Lv w T (j + 1) (l + 1) (max X Y + w (j + 1) (l + 1)) := by
  refine ⟨?_, fun f W q => ?_⟩
  · obtain ⟨f, W, a, rfl⟩ := h.is
    obtain ⟨g, V, b, rfl⟩ := h'.is
    by_cases c : T f + W ≤ T g + V
    · exact ⟨g, _, .right b, by omega⟩
    · exact ⟨f, _, .down a, by omega⟩
  · rcases q.cases_last with ⟨e, _⟩ | ⟨j', U, e, a, rfl⟩ | ⟨l', U, e, a, rfl⟩
    · omega
    · have : j' = j := by omega
      subst this
      have := h.le _ _ a; omega
    · have : l' = l := by omega
      subst this
      have := h'.le _ _ a; omega
theorem Way.left (hw : ∀ b, 0 ≤ w 0 b) : ∀ {f : Nat} {W : Int}, Way w 0 f j l W → ∃ V, Way w 0 0 j l V ∧ W ≤ V
  | 0, W, h => ⟨W, h, Int.le_refl W⟩
  | f + 1, W, h => by
    obtain ⟨V, a, b⟩ := Way.left hw h.cons_right
    exact ⟨V, a, by have := hw f; omega⟩
theorem Top.back {G : Int} (hv : ∀ a b, a ≤ n → b ≤ m → v (n - a) (m - b) = w a b) (hv' : ∀ a b, a ≤ n → b ≤ m → w (n - a) (m - b) = v a b) (h : Top w 0 0 n m G) : Top v 0 0 n m G := by
  have a := h.is.back hv (Nat.le_refl n) (Nat.le_refl m)
  simp only [Nat.sub_self, Nat.sub_zero] at a
  refine ⟨a, fun W q => h.le W ?_⟩
  have b := q.back hv' (Nat.le_refl n) (Nat.le_refl m)
  simpa only [Nat.sub_self, Nat.sub_zero] using b
end
end Lpp
set_option linter.all false
set_option autoImplicit false
namespace Zm
open PySem Lpp
/-! LQ: what leavings are by ways -/
def at2 (h : List (List Int)) (j l : Nat) : Int := (h.getD j []).getD l 0
/-- one row: from the values of the row ahead -/
theorem left_lv0 {w : Nat → Nat → Int} {T : Nat → Int} (hT : 0 ≤ T 0) : ∀ (row ts : List Int) (l : Nat) (x : Int), (∀ p, p < row.length → row.getD p 0 = w 0 (l + 1 + p)) → (∀ p, p < ts.length → ts.getD p 0 = T (l + 1 + p)) → row.length = ts.length → Lv w T 0 l x →
    ∀ p, p < row.length → Lv w T 0 (l + 1 + p) ((leftFrom x row ts).getD p 0)
  | [], _, _, _, _, _, _, _, p, hp => by simp at hp
  | _ :: _, [], _, _, _, _, h, _, _, _ => by simp at h
  | a :: row, t :: ts, l, x, h1, h2, hl, hx, p, hp => by
    have e1 := h1 0 (by simp)
    have e2 := h2 0 (by simp)
    simp at e1 e2
    have st := hx.top
    rw [← e1, ← e2] at st
    cases p with
    | zero => simpa [leftFrom] using st
    | succ p =>
      have := left_lv0 hT row ts (l + 1) (max x t + a) (fun q hq => by have := h1 (q + 1) (by simpa using hq); simpa [show l + 1 + (q + 1) = l + 1 + 1 + q by omega] using this) (fun q hq => by have := h2 (q + 1) (by simpa using hq); simpa [show l + 1 + (q + 1) = l + 1 + 1 + q by omega] using this) (by simpa using hl) st p (by simpa using hp)
      simpa [leftFrom, show l + 1 + 1 + p = l + 1 + (p + 1) by omega] using this
theorem left_lvs {w : Nat → Nat → Int} {T : Nat → Int} {j : Nat} : ∀ (row ts : List Int) (l : Nat) (x : Int), (∀ p, p < row.length → row.getD p 0 = w (j + 1) (l + 1 + p)) → (∀ p, p < ts.length → Lv w T j (l + 1 + p) (ts.getD p 0)) → row.length = ts.length → Lv w T (j + 1) l x →
    ∀ p, p < row.length → Lv w T (j + 1) (l + 1 + p) ((leftFrom x row ts).getD p 0)
  | [], _, _, _, _, _, _, _, p, hp => by simp at hp
  | _ :: _, [], _, _, _, _, h, _, _, _ => by simp at h
  | a :: row, t :: ts, l, x, h1, h2, hl, hx, p, hp => by
    have e1 := h1 0 (by simp)
    have e2 := h2 0 (by simp)
    simp at e1 e2
    have st := e2.step hx
    rw [← e1] at st
    rw [show max t x = max x t by omega] at st
    cases p with
    | zero => simpa [leftFrom] using st
    | succ p =>
      have := left_lvs (j := j) row ts (l + 1) (max x t + a) (fun q hq => by have := h1 (q + 1) (by simpa using hq); simpa [show l + 1 + (q + 1) = l + 1 + 1 + q by omega] using this) (fun q hq => by have := h2 (q + 1) (by simpa using hq); simpa [show l + 1 + (q + 1) = l + 1 + 1 + q by omega] using this) (by simpa using hl) st p (by simpa using hp)
      simpa [leftFrom, show l + 1 + 1 + p = l + 1 + (p + 1) by omega] using this
theorem row0_lv {w : Nat → Nat → Int} {T : Nat → Int} (hT : 0 ≤ T 0) (row ts : List Int) (h1 : ∀ p, p < row.length → row.getD p 0 = w 0 p) (h2 : ∀ p, p < ts.length → ts.getD p 0 = T p) (hl : row.length = ts.length) :
    ∀ p, p < row.length → Lv w T 0 p ((leftAt row ts).getD p 0) := by
  intro p hp
  match row, ts, h1, h2, hl, hp with
  | a :: row, t :: ts, h1, h2, hl, hp =>
    have e1 := h1 0 (by simp)
    have e2 := h2 0 (by simp)
    simp at e1 e2
    have st : Lv w T 0 0 (max 0 t + a) := by
      rw [show max 0 t = t by omega, e1, e2]; exact .first
    cases p with
    | zero => simpa [leftAt, leftFrom] using st
    | succ p =>
      have := left_lv0 hT row ts 0 (max 0 t + a) (fun q hq => by have := h1 (q + 1) (by simpa using hq); simpa [show 0 + 1 + q = q + 1 by omega] using this) (fun q hq => by have := h2 (q + 1) (by simpa using hq); simpa [show 0 + 1 + q = q + 1 by omega] using this) (by simpa using hl) st p (by simpa using hp)
      simpa [leftAt, leftFrom, show 0 + 1 + p = p + 1 by omega] using this
  | a :: row, [], h1, h2, hl, hp => simp at hl
  | [], _, h1, h2, hl, hp => simp at hp
theorem rowS_lv {w : Nat → Nat → Int} {T : Nat → Int} {j : Nat} (row ts : List Int) (hn : Nn ts) (h1 : ∀ p, p < row.length → row.getD p 0 = w (j + 1) p) (h2 : ∀ p, p < ts.length → Lv w T j p (ts.getD p 0)) (hl : row.length = ts.length) :
    ∀ p, p < row.length → Lv w T (j + 1) p ((leftAt row ts).getD p 0) := by
  intro p hp
  match row, ts, hn, h1, h2, hl, hp with
  | a :: row, t :: ts, hn, h1, h2, hl, hp =>
    have e1 := h1 0 (by simp)
    have e2 := h2 0 (by simp)
    have t0 := hn t (by simp)
    simp at e1 e2
    have st : Lv w T (j + 1) 0 (max 0 t + a) := by
      rw [show max 0 t = t by omega, e1]; exact e2.side
    cases p with
    | zero => simpa [leftAt, leftFrom] using st
    | succ p =>
      have := left_lvs (j := j) row ts 0 (max 0 t + a) (fun q hq => by have := h1 (q + 1) (by simpa using hq); simpa [show 0 + 1 + q = q + 1 by omega] using this) (fun q hq => by have := h2 (q + 1) (by simpa using hq); simpa [show 0 + 1 + q = q + 1 by omega] using this) (by simpa using hl) st p (by simpa using hp)
      simpa [leftAt, leftFrom, show 0 + 1 + p = p + 1 by omega] using this
  | a :: row, [], hn, h1, h2, hl, hp => simp at hl
  | [], _, hn, h1, h2, hl, hp => simp at hp
theorem leav_lvS {w : Nat → Nat → Int} {T : Nat → Int} {m : Nat} : ∀ (h : List (List Int)) (ts : List Int) (j : Nat), Nn ts → ts.length = m → (∀ r ∈ h, r.length = m ∧ Nn r) → (∀ q p, q < h.length → p < m → at2 h q p = w (j + 1 + q) p) → (∀ p, p < m → Lv w T j p (ts.getD p 0)) →
    ∀ q p, q < h.length → p < m → Lv w T (j + 1 + q) p (at2 (leavFrom h ts) q p)
  | [], _, _, _, _, _, _, _, q, p, hq, _ => by simp at hq
  | r :: h, ts, j, hn, ht, hr, hw, hv, q, p, hq, hp => by
    have h0 := hr r (by simp)
    have row := rowS_lv (w := w) (T := T) (j := j) r ts hn (fun p hp => by have := hw 0 p (by simp) (by omega); simpa [at2] using this) (fun p hp => hv p (by omega)) (by omega)
    have l1 : (leftAt r ts).length = m := by have := leftFrom_len r ts 0 (by omega); unfold leftAt; omega
    cases q with
    | zero => simpa [at2, leavFrom] using row p (by omega)
    | succ q =>
      have := leav_lvS h (leftAt r ts) (j + 1) (left_nn r ts 0 (Int.le_refl 0) h0.2) l1 (fun r' hr' => hr r' (by simp [hr'])) (fun q p hq hp => by have := hw (q + 1) p (by simpa using hq) hp; simpa [at2, show j + 1 + (q + 1) = j + 1 + 1 + q by omega] using this) (fun p hp => row p (by omega)) q p (by simpa using hq) hp
      simpa [at2, leavFrom, show j + 1 + 1 + q = j + 1 + (q + 1) by omega] using this
/-- leavings are the greatest of all ways to there, with the times at which those come who stand at their heads -/
theorem leav_lv {m : Nat} {h : List (List Int)} {t : List Int} (ht : t.length = m) (hn : Nn t) (hr : ∀ r ∈ h, r.length = m ∧ Nn r) (q p : Nat) (hq : q < h.length) (hp : p < m) : Lv (at2 h) (fun k => t.getD k 0) q p (at2 (leavFrom h t) q p) := by
  match h, hr, hq with
  | r :: h, hr, hq =>
    have h0 := hr r (by simp)
    have hT : 0 ≤ (fun k => t.getD k 0) 0 := by
      match t, ht, hn with
      | [], ht, _ => simp
      | x :: t, _, hn => exact hn x (by simp)
    have row := row0_lv (w := at2 (r :: h)) (T := fun k => t.getD k 0) hT r t (fun p hp => by simp [at2]) (fun p hp => rfl) (by omega)
    have l1 : (leftAt r t).length = m := by have := leftFrom_len r t 0 (by omega); unfold leftAt; omega
    cases q with
    | zero => simpa [at2, leavFrom] using row p (by omega)
    | succ q =>
      have := leav_lvS (w := at2 (r :: h)) h (leftAt r t) 0 (left_nn r t 0 (Int.le_refl 0) h0.2) l1 (fun r' hr' => hr r' (by simp [hr'])) (fun q p hq hp => by simp [at2, show 0 + 1 + q = q + 1 by omega]) (fun p hp => row p (by omega)) q p (by simpa using hq) hp
      simpa [at2, leavFrom, show 0 + 1 + q = q + 1 by omega] using this
end Zm
set_option linter.all false
set_option autoImplicit false
set_option maxRecDepth 100000
/-! GH: held_by. -/
namespace Zm
open PySem
/-- a table of so many rows, so many in each, none below nought -/
structure Tab (L : List (List Int)) (n m : Nat) : Prop where
  rows : L.length = n
  row : ∀ r ∈ L, r.length = m ∧ Nn r
theorem Tab.at {L : List (List Int)} {n m j l : Nat} (h : Tab L n m) (hj : j < n) (hl : l < m) : ∃ r, L[j]? = some r ∧ r[l]? = some (at2 L j l) ∧ 0 ≤ at2 L j l := by
  have hlen := h.rows
  have e : L[j]? = some L[j] := List.getElem?_eq_getElem (by omega)
  obtain ⟨rl, rn⟩ := h.row _ (List.getElem_mem (show j < L.length by omega))
  have e2 : L[j][l]? = some L[j][l] := List.getElem?_eq_getElem (by omega)
  have e3 : at2 L j l = L[j][l] := by unfold at2; rw [List.getD_eq_getElem?_getD, List.getD_eq_getElem?_getD, e]; simp [e2]
  exact ⟨L[j], e, by rw [e3]; exact e2, by rw [e3]; exact rn _ (List.getElem_mem _)⟩
theorem Tab.ix {L : List (List Int)} {n m j l : Nat} (h : Tab L n m) (hj : j < n) (hl : l < m) (s : Sto) : bd (ixT L (j : Int)) (fun y => ixT y (l : Int)) s = .ok (at2 L j l) s := by
  obtain ⟨r, e1, e2, _⟩ := h.at hj hl
  rw [bd_ok (ix_get e1)]; exact ix_get e2
theorem getD_get {t : List Int} {l : Nat} (h : l < t.length) : t[l]? = some (t.getD l 0) := by
  rw [List.getD_eq_getElem?_getD, List.getElem?_eq_getElem h]; rfl
end Zm
set_option linter.all false
set_option autoImplicit false
set_option maxRecDepth 100000
/-! GW: ways: the table of greatest worths. -/
namespace Zm
open PySem Lpp
/-- a cell of the table -/
def CellW (w : Nat → Nat → Int) (f i k : Nat) (o : Option Int) : Prop := (k < f → o = none) ∧ (f ≤ k → ∃ G, o = some G ∧ Top w 0 f i k G)
structure TabW (w : Nat → Nat → Int) (n m f : Nat) (tab : List (List (Option Int))) : Prop where
  len : tab.length = n
  row : ∀ i, i < n → ∃ r, tab[i]? = some r ∧ r.length = m ∧ ∀ k, k < m → ∃ o, r[k]? = some o ∧ CellW w f i k o
theorem enumT_get {α : Type} : ∀ (xs : List α) (n i : Nat), (enumT n xs)[i]? = xs[i]?.map fun x => (((n + i : Nat) : Int), x)
  | [], _, _ => rfl
  | x :: xs, n, 0 => rfl
  | x :: xs, n, i + 1 => by
    show (enumT (n + 1) xs)[i]? = _
    rw [enumT_get xs (n + 1) i, show n + 1 + i = n + (i + 1) by omega]; rfl
@[simp] theorem enumT_len {α : Type} : ∀ (xs : List α) (n : Nat), (enumT n xs).length = xs.length
  | [], _ => rfl
  | x :: xs, n => by simp [enumT, enumT_len xs]
end Zm
set_option linter.all false
set_option autoImplicit false
set_option maxRecDepth 100000
/-! GD: draws of the other kinds; houses, halls by them. -/
namespace Zm
open PySem
theorem draw_ok {s : Sto} {n C : Nat} {w : Int} (hw : Well s n C) (hC : C < 2 ^ 100) (h1 : 0 < w) (h2 : w < 2 ^ 100) :
    ∃ r s', f__law_draw [.box n, .int w] s = .ok (.int r) s' ∧ 0 ≤ r ∧ r < w ∧ Well s' n (C + 1) := by
  obtain ⟨a, b, c, e, ha, hb, hb2, hc, hc2⟩ := hw
  have hn : n < s.length := (List.getElem?_eq_some_iff.mp e).1
  have i0 := ix_box e (at3_0)
  have i1 := ix_box e (at3_1)
  have i2 := ix_box e (at3_2)
  by_cases h0 : 1 < a
  · refine ⟨a % w, s.set n [.int (a / w), .int b, .int c], ?_, Int.emod_nonneg _ (by omega), Int.emod_lt_of_pos _ h1, a / w, b, c, by simp [hn], Int.ediv_nonneg ha (by omega), hb, hb2, hc, by omega⟩
    have d1 := div_s s a w h1 (by omega)
    simp [f__law_draw, mkFn, i0, h0, h1, mSetD, mSt, e, d1, uSet, L2.ixN, mRetV]
  · obtain ⟨s1, hs⟩ : ∃ s1, s.set n [.int a, .int b, .int (c + 1)] = s1 := ⟨_, rfl⟩
    have e1 : s1[n]? = some [.int a, .int b, .int (c + 1)] := by rw [← hs]; simp [hn]
    have j1 := ix_box e1 (at3_1)
    have j2 := ix_box e1 (at3_2)
    have q1 := mul_s s1 (c + 1) 982451653 (by omega) (by omega) (by decide) (by decide)
    have q2 := pow_s s1 (b + (c + 1) * 982451653) 5 (by decide) (by decide) (by omega) (by omega)
    have q3 := mul_s s1 (c + 1) 15485863 (by omega) (by omega) (by decide) (by decide)
    obtain ⟨m1, hm1⟩ : ∃ m, (b + (c + 1) * 982451653) ^ 5 % 1000000000000000000000000000000000000003 = m := ⟨_, rfl⟩
    have m1a : 0 ≤ m1 := hm1 ▸ Int.emod_nonneg _ (by decide)
    have m1b : m1 < 1000000000000000000000000000000000000003 := hm1 ▸ Int.emod_lt_of_pos _ (by decide)
    have q4 := pow_s s1 (m1 + (c + 1) * 15485863) 3 (by decide) (by decide) (by omega) (by omega)
    obtain ⟨m2, hm2⟩ : ∃ m, (m1 + (c + 1) * 15485863) ^ 3 % 1000000000000000000000000000000000067 = m := ⟨_, rfl⟩
    have q5 := div_s s1 m2 1024 (by decide) (by decide)
    refine ⟨m2 / 1024 % w, s1, ?_, Int.emod_nonneg _ (by omega), Int.emod_lt_of_pos _ h1, a, b, c + 1, e1, by omega, hb, hb2, by omega, by omega⟩
    simp [f__law_draw, mkFn, i0, i1, i2, h0, h1, mSetD, mSt, e, uSet, L2.ixN, mRetV, hs, j1, j2, p10, q1, q2, q3, q4, q5, hm1, hm2]
theorem draw_gets {n : Nat} {w : Int} (h1 : 0 < w) (h2 : w < 2 ^ 100) : Gets Well n 1 (g__law_draw n w) (fun r => 0 ≤ r ∧ r < w) := fun s C hw hc => by
  obtain ⟨r, s', e, r0, rw_, w'⟩ := draw_ok hw (show C < 2 ^ 100 by omega) h1 h2
  exact ⟨r, s', by unfold g__law_draw; rw [e], ⟨r0, rw_⟩, w'⟩
theorem bag1_ok {c : Int} (s : Sto) : ∃ n s', g__law_bag c s = .ok n s' ∧ Well s' n 0 := by
  have m0 := Int.emod_nonneg c (b := 10000000000000000000000000000000000000121) (by decide)
  have m1 := Int.emod_lt_of_pos c (b := 10000000000000000000000000000000000000121) (by decide)
  refine ⟨s.length, s ++ [[.int (if c - 1000000000000000000 > 1 then c - 1000000000000000000 else 1), .int (c % 10000000000000000000000000000000000000121), .int 0]], ?_, _, _, _, by simp; exact ⟨rfl, rfl, rfl⟩, ?_, ?_, ?_, by decide, by decide⟩
  · unfold g__law_bag
    simp [f__law_bag, mkFn, mBox, p10, sl3]
  · split <;> omega
  · omega
  · omega
theorem cell_at_T {ns : List Int} {k : Int} (h : 0 ≤ k) : Ps (g__law_cell_at ns k) (fun _ => True) := by
  unfold g__law_cell_at
  refine ps_fn (pb_if (fun c => pb_eb (P1 := fun _ => True) (fun s => ?_) fun x _ => pb_rt trivial) fun _ => pb_rt trivial)
  obtain ⟨x, e, _⟩ := ix_any (s := s) h (of_decide_eq_true c)
  exact ⟨x, e, trivial⟩
theorem oneD_gets {n : Nat} {w : Int} (h1 : 0 < w) (h2 : w < 2 ^ 100) : Gets Well n 1 (bd (g__law_draw n w) fun y => pr (1 + y)) (fun m => 1 ≤ m ∧ m ≤ w) :=
  gets_bd (draw_gets h1 h2) fun y hy => gets_pr ⟨by omega, by omega⟩
theorem powC {k : Nat} (h : k ≤ 1000) (s : Sto) : powT 10 (k : Int) s = .ok (10 ^ k) s := pow10_ok h
/-- a hall whose minutes are not too great -/
def Low (b : Int) (h : List (List Int)) : Prop := ∀ r ∈ h, ∀ x ∈ r, x < b
end Zm
set_option linter.all false
set_option autoImplicit false
set_option maxRecDepth 100000
/-! GM: moves, typed. -/
namespace Zm
open PySem Lpp Mv
def rf (h : List (List Int)) (i : Nat) : Nat → Int := fun c => at2 h i c
theorem row_get {h : List (List Int)} {m i : Nat} (H : ∀ r ∈ h, r.length = m) (hi : i < h.length) : ∃ r, h[i]? = some r ∧ r.length = m ∧ ∀ c, c < m → r[c]? = some (rf h i c) := by
  have e : h[i]? = some h[i] := List.getElem?_eq_getElem hi
  have rl := H _ (List.getElem_mem hi)
  refine ⟨h[i], e, rl, fun c hc => ?_⟩
  unfold rf at2
  rw [List.getD_eq_getElem?_getD (l := h), e, Option.getD_some]
  exact getD_get (by omega)
def lst (f : Nat → Int) (m : Nat) : List Int := (List.range m).map f
@[simp] theorem lst_len {f : Nat → Int} {m : Nat} : (lst f m).length = m := by simp [lst]
theorem lst_get {f : Nat → Int} {m c : Nat} (h : c < m) : (lst f m)[c]? = some (f c) := by simp [lst, h]
theorem lst_snoc {f : Nat → Int} {m : Nat} : lst f m ++ [f m] = lst f (m + 1) := by simp [lst, List.range_succ]
theorem lst_eq {f : Nat → Int} {m : Nat} {r : List Int} (hl : r.length = m) (h : ∀ c, c < m → r[c]? = some (f c)) : r = lst f m := by
  apply List.ext_getElem?
  intro c
  by_cases hc : c < m
  · rw [h c hc, lst_get hc]
  · rw [List.getElem?_eq_none (by omega), List.getElem?_eq_none (by simp; omega)]
section
variable {h : List (List Int)} {m i : Nat} (H : HallOK h m) (hi : i + 1 < h.length)
include H hi
/-- the greatest lead, what can be moved -/
def onX (h : List (List Int)) (i m : Nat) : Int := gw (rf h i) (rf h (i + 1)) m - ps (rf h (i + 1)) m
def offX (h : List (List Int)) (i m : Nat) : Int := gw (rf h i) (rf h (i + 1)) m - ps (rf h i) m
omit hi in
theorem rf_nn {j c : Nat} (hj : j < h.length) (hc : c < m) : 0 ≤ rf h j c := by
  obtain ⟨r, e1, _, v⟩ := row_get (fun r hr => (H.row r hr).1) hj
  exact (H.row r (List.mem_of_getElem? e1)).2 _ (List.mem_of_getElem? (v c hc))
/-- the rows of another total, and the hall with them -/
def rec2 (h : List (List Int)) (i m : Nat) (T : Int) : List (Int × Int) := recon (gw (rf h i) (rf h (i + 1))) (fun c => rf h i c + rf h (i + 1) c) m T
def newH (h : List (List Int)) (i m : Nat) (T : Int) : List (List Int) := h.take i ++ [(rec2 h i m T).map (·.1), (rec2 h i m T).map (·.2)] ++ h.drop (i + 2)
end
end Zm
set_option linter.all false
set_option autoImplicit false
set_option maxRecDepth 100000
/-! P06: the plain law. -/
namespace Zm
open PySem
theorem left_sorted : ∀ (row ts : List Int) (f : Int), Nn row → (leftFrom f row ts).Pairwise (· ≤ ·) ∧ ∀ x ∈ leftFrom f row ts, f ≤ x
  | [], _, _, _ => by simp [leftFrom]
  | _ :: _, [], _, _ => by simp [leftFrom]
  | r :: row, t :: ts, f, hn => by
    have h0 := hn r (by simp)
    obtain ⟨a, b⟩ := left_sorted row ts (max f t + r) fun x hx => hn x (by simp [hx])
    simp only [leftFrom]
    refine ⟨List.pairwise_cons.mpr ⟨b, a⟩, fun x hx => ?_⟩
    rcases List.mem_cons.mp hx with rfl | hx
    · omega
    · have := b x hx; omega
theorem leftAt_day {r t : List Int} {m : Nat} (hr : r.length = m ∧ Nn r) (ht : DayOK t m) : DayOK (leftAt r t) m := by
  have := ht.len
  refine ⟨?_, left_nn r t 0 (by omega) hr.2, (left_sorted r t 0 hr.2).1⟩
  show (leftFrom 0 r t).length = m
  rw [leftFrom_len _ _ _ (by omega)]; exact hr.1
theorem inTo_day {m : Nat} : ∀ {h : List (List Int)} {t : List Int}, (∀ r ∈ h, r.length = m ∧ Nn r) → DayOK t m → DayOK (inTo h t) m
  | [], _, _, ht => ht
  | r :: h, t, hr, ht => inTo_day (h := h) (fun q hq => hr q (by simp [hq])) (leftAt_day (hr r (by simp)) ht)
/-! where the row goes, told of a part -/
section
variable {L : List (List Int)} {t : List Int} {n m : Nat} (h : Tab L n m) (hn : Nn t) (ht : t.length = m)
include h hn ht
end
/-! noughts -/
/-! all at once -/
def about (h : List (List Int)) (m : Nat) : List (List Int) := (List.range m).map fun k => h.map fun r => r.getD k 0
end Zm
set_option linter.all false
set_option autoImplicit false
set_option maxRecDepth 100000
/-! GU: moves that nobody sees. -/
namespace Zm
open PySem Lpp Mv
/-! two rows: their ways -/
theorem way_row' {w : Nat → Nat → Int} {i p j q : Nat} {W : Int} (h : Way w i p j q W) : j = i → p ≤ q ∧ W = ps (w i) (q + 1) - ps (w i) p := by
  induction h with
  | one => exact fun _ => ⟨Nat.le_refl _, by simp only [ps]; omega⟩
  | down h ih => intro e; have := h.le; omega
  | right h ih =>
    intro e
    subst e
    obtain ⟨a, b⟩ := ih rfl
    exact ⟨by omega, by simp only [ps] at b ⊢; omega⟩
theorem way_row {w : Nat → Nat → Int} {i p q : Nat} {W : Int} (h : Way w i p i q W) : p ≤ q ∧ W = ps (w i) (q + 1) - ps (w i) p := way_row' h rfl
theorem row_way {w : Nat → Nat → Int} {i p : Nat} : ∀ {q : Nat}, p ≤ q → Way w i p i q (ps (w i) (q + 1) - ps (w i) p)
  | q, h => by
    by_cases e : p = q
    · subst e
      have : ps (w i) (p + 1) - ps (w i) p = w i p := by simp only [ps]; omega
      rw [this]; exact .one _ _
    · obtain ⟨q', rfl⟩ : ∃ q', q = q' + 1 := ⟨q - 1, by omega⟩
      have := (row_way (w := w) (i := i) (p := p) (q := q') (by omega)).right
      have e2 : ps (w i) (q' + 1 + 1) - ps (w i) p = ps (w i) (q' + 1) - ps (w i) p + w i (q' + 1) := by simp only [ps]; omega
      rw [e2]; exact this
theorem way_two {w : Nat → Nat → Int} {p : Nat} : ∀ {q : Nat} {W : Int}, Way w 0 p 1 q W → ∃ c, p ≤ c ∧ c ≤ q ∧ W = val (w 0) (w 1) p q c
  | q, W, h => by
    rcases h.cases_last with ⟨e, _, _⟩ | ⟨j', U, e, h2, e2⟩ | ⟨l', U, e, h2, e2⟩
    · omega
    · have : j' = 0 := by omega
      subst this
      obtain ⟨a, b⟩ := way_row h2
      exact ⟨q, a, Nat.le_refl _, by simp only [val, ps] at b ⊢; omega⟩
    · subst e
      obtain ⟨c, a, b, d⟩ := way_two h2
      exact ⟨c, a, by omega, by simp only [val, ps] at d ⊢; omega⟩
theorem two_way {w : Nat → Nat → Int} {p c : Nat} (h1 : p ≤ c) : ∀ {q : Nat}, c ≤ q → Way w 0 p 1 q (val (w 0) (w 1) p q c)
  | q, h => by
    by_cases e : c = q
    · subst e
      have := (row_way (w := w) (i := 0) h1).down
      have e2 : val (w 0) (w 1) p c c = ps (w 0) (c + 1) - ps (w 0) p + w (0 + 1) c := by simp only [val, ps, Nat.zero_add]; omega
      rw [e2]; exact this
    · obtain ⟨q', rfl⟩ : ∃ q', q = q' + 1 := ⟨q - 1, by omega⟩
      have := (two_way (w := w) h1 (q := q') (by omega)).right
      have e2 : val (w 0) (w 1) p (q' + 1) c = val (w 0) (w 1) p q' c + w 1 (q' + 1) := by simp only [val, ps]; omega
      rw [e2]; exact this
/-! cut between customers -/
def cutH (f b : Nat) (h : List (List Int)) : List (List Int) := h.map fun r => (r.take b).drop f
theorem hall_cutH {h : List (List Int)} {m f b : Nat} (H : HallOK h m) (hf : f < b) (hb : b ≤ m) : HallOK (cutH f b h) (b - f) := by
  refine ⟨by have := H.l1; simpa [cutH] using this, by have := H.l8; simpa [cutH] using this, by omega, by have := H.m8; omega, fun r hr => ?_⟩
  obtain ⟨q, hq, rfl⟩ := List.mem_map.mp hr
  obtain ⟨a, c⟩ := H.row q hq
  exact ⟨by simp; omega, fun x hx => c x (List.mem_of_mem_take (List.mem_of_mem_drop hx))⟩
theorem rf_cut {h : List (List Int)} {f b j c : Nat} (hc : c < b - f) : rf (cutH f b h) j c = rf h j (f + c) := by
  unfold rf at2 cutH
  simp only [List.getD_eq_getElem?_getD, List.getElem?_map]
  cases h[j]? with
  | none => rfl
  | some r => simp [List.getElem?_take, show f + c < b by omega]
theorem ps_shift {a a' : Nat → Int} {f k : Nat} (h : ∀ c, c < k → a' c = a (f + c)) : ps a' k = ps a (f + k) - ps a f := by
  induction k with
  | zero => simp [ps]
  | succ k ih =>
    have := ih fun c hc => h c (by omega)
    have := h k (by omega)
    show ps a' k + a' k = (ps a (f + k) + a (f + k)) - ps a f
    omega
theorem dom_shift {m f k : Nat} {a b a2 b2 c d c2 d2 : Nat → Int} (h : Dom m a b a2 b2) (hk : f + k ≤ m) (e1 : ∀ x, x < k → c x = a (f + x)) (e2 : ∀ x, x < k → d x = b (f + x)) (e3 : ∀ x, x < k → c2 x = a2 (f + x)) (e4 : ∀ x, x < k → d2 x = b2 (f + x)) : Dom k c d c2 d2 := fun p q x h1 h2 h3 => by
  obtain ⟨y, y1, y2, y3⟩ := h (f + p) (f + q) (f + x) (by omega) (by omega) (by omega)
  refine ⟨y - f, by omega, by omega, ?_⟩
  have s : ∀ (u v : Nat → Int), (∀ x, x < k → u x = v (f + x)) → ∀ j, j ≤ k → ps u j = ps v (f + j) - ps v f := fun u v hu j hj => ps_shift fun c hc => hu c (by omega)
  unfold val at y3 ⊢
  rw [s c a e1 (x + 1) (by omega), s c a e1 p (by omega), s d b e2 (q + 1) (by omega), s d b e2 x (by omega), s c2 a2 e3 (y - f + 1) (by omega), s c2 a2 e3 p (by omega), s d2 b2 e4 (q + 1) (by omega), s d2 b2 e4 (y - f) (by omega)]
  rw [show f + (x + 1) = f + x + 1 by omega, show f + (q + 1) = f + q + 1 by omega, show f + (y - f + 1) = y + 1 by omega, show f + (y - f) = y by omega]
  omega
/-- two rows of which none is seen: those who come at such times leave both alike -/
theorem two_in {m : Nat} {r1 r2 q1 q2 t : List Int} (hr : ∀ r ∈ [r1, r2], r.length = m ∧ Nn r) (hq : ∀ r ∈ [q1, q2], r.length = m ∧ Nn r) (ht : DayOK t m)
    (e : Eqv m (rf [r1, r2] 0) (rf [r1, r2] 1) (rf [q1, q2] 0) (rf [q1, q2] 1)) : inTo [r1, r2] t = inTo [q1, q2] t := by
  have d1 := inTo_day hr ht
  have d2 := inTo_day hq ht
  have tl := ht.len
  apply List.ext_getElem?
  intro k
  by_cases hk : k < m
  · have a := leav_lv tl ht.nn hr 1 k (by simp) hk
    have b := leav_lv tl ht.nn hq 1 k (by simp) hk
    have e1 : at2 (leavFrom [r1, r2] t) 1 k = (inTo [r1, r2] t).getD k 0 := rfl
    have e2 : at2 (leavFrom [q1, q2] t) 1 k = (inTo [q1, q2] t).getD k 0 := rfl
    have half : ∀ {u1 u2 v1 v2 : List Int} {X Y : Int}, Dom m (rf [u1, u2] 0) (rf [u1, u2] 1) (rf [v1, v2] 0) (rf [v1, v2] 1) → Lv (at2 [u1, u2]) (fun k => t.getD k 0) 1 k X → Lv (at2 [v1, v2]) (fun k => t.getD k 0) 1 k Y → X ≤ Y := by
      intro u1 u2 v1 v2 X Y D lx ly
      obtain ⟨p, W, w, ex⟩ := lx.is
      obtain ⟨c, c1, c2, c3⟩ := way_two w
      obtain ⟨c', d1, d2, d3⟩ := D p k c c1 c2 hk
      have := ly.le p _ (two_way (w := at2 [v1, v2]) d1 d2)
      have c3 : W = val (rf [u1, u2] 0) (rf [u1, u2] 1) p k c := c3
      have this : t.getD p 0 + val (rf [v1, v2] 0) (rf [v1, v2] 1) p k c' ≤ Y := this
      omega
    have h1 := half e.1 a b
    have h2 := half e.2 b a
    rw [getD_get (by rw [d1.len]; exact hk), getD_get (by rw [d2.len]; exact hk), ← e1, ← e2]
    congr 1; omega
  · rw [List.getElem?_eq_none (by rw [d1.len]; omega), List.getElem?_eq_none (by rw [d2.len]; omega)]
theorem inTo_append : ∀ (g h : List (List Int)) (t : List Int), inTo (g ++ h) t = inTo h (inTo g t)
  | [], _, _ => rfl
  | r :: g, h, t => inTo_append g h (leftAt r t)
/-- nobody outside sees a difference, on whatever day, of customers next to one another -/
def Un (m : Nat) (h h' : List (List Int)) : Prop := ∀ f b, f < b → b ≤ m → ∀ t, DayOK t (b - f) → inTo (cutH f b h) t = inTo (cutH f b h') t
theorem Un.refl {m : Nat} {h : List (List Int)} : Un m h h := fun _ _ _ _ _ _ => rfl
theorem Un.trans {m : Nat} {h h' h2 : List (List Int)} (a : Un m h h') (b : Un m h' h2) : Un m h h2 := fun f c h1 h2 t ht => (a f c h1 h2 t ht).trans (b f c h1 h2 t ht)
theorem Un.symm {m : Nat} {h h' : List (List Int)} (a : Un m h h') : Un m h' h := fun f c h1 h2 t ht => (a f c h1 h2 t ht).symm
section
variable {h : List (List Int)} {m i : Nat} (H : HallOK h m) (hi : i + 1 < h.length) {T : Int} (h1 : ps (rf h i) m + ps (rf h (i + 1)) m - gw (rf h i) (rf h (i + 1)) m ≤ T) (h2 : T ≤ gw (rf h i) (rf h (i + 1)) m)
include H hi h1 h2
theorem rec2_ok : (rec2 h i m T).length = m ∧ (∀ c, c < m → 0 ≤ fa (rec2 h i m T) c ∧ 0 ≤ fb (rec2 h i m T) c ∧ fa (rec2 h i m T) c + fb (rec2 h i m T) c = rf h i c + rf h (i + 1) c) ∧ ps (fa (rec2 h i m T)) m = T ∧
    (∀ c, c ≤ m → gw (fa (rec2 h i m T)) (fb (rec2 h i m T)) c = gw (rf h i) (rf h (i + 1)) c) ∧ Eqv m (rf h i) (rf h (i + 1)) (fa (rec2 h i m T)) (fb (rec2 h i m T)) := by
  have m1 := H.m1
  have ha : ∀ c, c < m → 0 ≤ rf h i c := fun c hc => rf_nn H (by omega) hc
  have hb : ∀ c, c < m → 0 ≤ rf h (i + 1) c := fun c hc => rf_nn H hi hc
  have psB : ∀ k, ps (fun c => rf h i c + rf h (i + 1) c) k = ps (rf h i) k + ps (rf h (i + 1)) k := by
    intro k
    induction k with
    | zero => rfl
    | succ k ih => simp only [ps, ih]; omega
  obtain ⟨a, b, c⟩ := recon_ok (lace_of ha hb) (T := T) (by rw [psB]; exact h1) h2
  exact ⟨recon_len _ _, a, b, c, two_all (by omega) ha hb h1 h2⟩
omit h1 h2 in
theorem split2 : ∃ r1 r2, h = h.take i ++ [r1, r2] ++ h.drop (i + 2) ∧ r1 = lst (rf h i) m ∧ r2 = lst (rf h (i + 1)) m := by
  obtain ⟨r1, e1, l1, v1⟩ := row_get (fun r hr => (H.row r hr).1) (show i < h.length by omega)
  obtain ⟨r2, e2, l2, v2⟩ := row_get (fun r hr => (H.row r hr).1) hi
  refine ⟨r1, r2, ?_, lst_eq l1 v1, lst_eq l2 v2⟩
  have a : h.drop i = r1 :: h.drop (i + 1) := by
    rw [List.drop_eq_getElem_cons (by omega)]
    congr 1
    have := (List.getElem?_eq_some_iff.mp e1).2; exact this
  have b : h.drop (i + 1) = r2 :: h.drop (i + 2) := by
    rw [List.drop_eq_getElem_cons (by omega)]
    congr 1
    have := (List.getElem?_eq_some_iff.mp e2).2; exact this
  conv => lhs; rw [← List.take_append_drop i h, a, b]
  simp
theorem new_rows : (rec2 h i m T).map (·.1) = lst (fa (rec2 h i m T)) m ∧ (rec2 h i m T).map (·.2) = lst (fb (rec2 h i m T)) m := by
  obtain ⟨l, _⟩ := rec2_ok H hi h1 h2
  have g : ∀ c, c < m → (rec2 h i m T)[c]? = some ((rec2 h i m T).getD c (0, 0)) := fun c hc => by
    rw [List.getD_eq_getElem?_getD, List.getElem?_eq_getElem (by omega)]; rfl
  refine ⟨lst_eq (by simp [l]) fun c hc => ?_, lst_eq (by simp [l]) fun c hc => ?_⟩
  · rw [List.getElem?_map, g c hc]; rfl
  · rw [List.getElem?_map, g c hc]; rfl
theorem new_hall : HallOK (newH h i m T) m ∧ (newH h i m T).length = h.length := by
  obtain ⟨l, a, _⟩ := rec2_ok H hi h1 h2
  obtain ⟨n1, n2⟩ := new_rows H hi h1 h2
  have len : (newH h i m T).length = h.length := by unfold newH; simp; omega
  refine ⟨⟨by rw [len]; exact H.l1, by rw [len]; exact H.l8, H.m1, H.m8, fun r hr => ?_⟩, len⟩
  unfold newH at hr
  rcases List.mem_append.mp hr with hr | hr
  · rcases List.mem_append.mp hr with hr | hr
    · exact H.row r (List.mem_of_mem_take hr)
    · have nn : ∀ (f : Nat → Int), (∀ c, c < m → 0 ≤ f c) → (lst f m).length = m ∧ Nn (lst f m) := fun f hf => ⟨by simp, fun x hx => by
        obtain ⟨c, hc, rfl⟩ := List.mem_map.mp hx
        exact hf c (by simpa using hc)⟩
      simp only [List.mem_cons, List.not_mem_nil, or_false] at hr
      rcases hr with rfl | rfl
      · rw [n1]; exact nn _ fun c hc => (a c hc).1
      · rw [n2]; exact nn _ fun c hc => (a c hc).2.1
  · exact H.row r (List.mem_of_mem_drop hr)
omit H hi h1 h2 in
theorem rf_two {f g : Nat → Int} {m c : Nat} (hc : c < m) : rf [lst f m, lst g m] 0 c = f c ∧ rf [lst f m, lst g m] 1 c = g c := by
  have e : ∀ (u : Nat → Int), (lst u m).getD c 0 = u c := fun u => by rw [List.getD_eq_getElem?_getD, lst_get hc]; rfl
  exact ⟨e f, e g⟩
theorem moved_un : Un m h (newH h i m T) := fun f b hf hb t ht => by
  obtain ⟨l, a, _, _, eq⟩ := rec2_ok H hi h1 h2
  obtain ⟨n1, n2⟩ := new_rows H hi h1 h2
  obtain ⟨r1, r2, e, e1, e2⟩ := split2 H hi
  have HN := (new_hall H hi h1 h2).1
  have Hc := hall_cutH H hf hb
  have Hcn := hall_cutH HN hf hb
  have c1 : cutH f b h = cutH f b (h.take i) ++ cutH f b [lst (rf h i) m, lst (rf h (i + 1)) m] ++ cutH f b (h.drop (i + 2)) := by
    conv => lhs; rw [e, e1, e2]
    simp [cutH]
  have c2 : cutH f b (newH h i m T) = cutH f b (h.take i) ++ cutH f b [lst (fa (rec2 h i m T)) m, lst (fb (rec2 h i m T)) m] ++ cutH f b (h.drop (i + 2)) := by
    unfold newH
    rw [n1, n2]
    simp [cutH]
  have cut2 : ∀ u v : Nat → Int, cutH f b [lst u m, lst v m] = [((lst u m).take b).drop f, ((lst v m).take b).drop f] := fun u v => rfl
  have D : DayOK (inTo (cutH f b (h.take i)) t) (b - f) := inTo_day (fun r hr => Hc.row r (by rw [c1]; simp [hr])) ht
  rw [c1, c2, inTo_append, inTo_append, inTo_append, inTo_append]
  congr 1
  rw [cut2, cut2]
  have rw1 : ∀ (u v : Nat → Int) (x : Nat), x < b - f → rf [((lst u m).take b).drop f, ((lst v m).take b).drop f] 0 x = u (f + x) ∧ rf [((lst u m).take b).drop f, ((lst v m).take b).drop f] 1 x = v (f + x) := fun u v x hx => by
    have q0 := rf_cut (h := [lst u m, lst v m]) (f := f) (b := b) (j := 0) hx
    have q1 := rf_cut (h := [lst u m, lst v m]) (f := f) (b := b) (j := 1) hx
    rw [cut2] at q0 q1
    rw [q0, q1]
    exact rf_two (by omega)
  refine two_in (fun r hr => Hc.row r (by rw [c1, cut2]; simp only [List.mem_append]; exact .inl (.inr hr))) (fun r hr => Hcn.row r (by rw [c2, cut2]; simp only [List.mem_append]; exact .inl (.inr hr))) D ⟨?_, ?_⟩
  · exact dom_shift (f := f) eq.1 (by omega) (fun x hx => (rw1 _ _ x hx).1) (fun x hx => (rw1 _ _ x hx).2) (fun x hx => (rw1 _ _ x hx).1) (fun x hx => (rw1 _ _ x hx).2)
  · exact dom_shift (f := f) eq.2 (by omega) (fun x hx => (rw1 _ _ x hx).1) (fun x hx => (rw1 _ _ x hx).2) (fun x hx => (rw1 _ _ x hx).1) (fun x hx => (rw1 _ _ x hx).2)
/-- each customer's minutes in all -/
theorem moved_sum {c : Nat} (hc : c < m) : ((newH h i m T).map fun r => r.getD c 0).sum = (h.map fun r => r.getD c 0).sum := by
  obtain ⟨l, a, _⟩ := rec2_ok H hi h1 h2
  obtain ⟨n1, n2⟩ := new_rows H hi h1 h2
  obtain ⟨r1, r2, e, e1, e2⟩ := split2 H hi
  have q := (a c hc).2.2
  have g : ∀ (u : Nat → Int), (lst u m).getD c 0 = u c := fun u => by rw [List.getD_eq_getElem?_getD, lst_get hc]; rfl
  have E : (h.map fun r => r.getD c 0).sum = ((h.take i ++ [r1, r2] ++ h.drop (i + 2)).map fun r => r.getD c 0).sum := by rw [← e]
  rw [E]
  unfold newH
  rw [n1, n2, e1, e2]
  simp only [List.map_append, List.map_cons, List.map_nil, List.sum_append, List.sum_cons, List.sum_nil, g]
  omega
end
theorem onX_nn {h : List (List Int)} {m i : Nat} (H : HallOK h m) (hi : i + 1 < h.length) : 0 ≤ onX h i m ∧ 0 ≤ offX h i m := by
  have ge : ∀ c, c ≤ m → ps (rf h i) c ≤ gw (rf h i) (rf h (i + 1)) c ∧ ps (rf h (i + 1)) c ≤ gw (rf h i) (rf h (i + 1)) c := by
    intro c
    induction c with
    | zero => exact fun _ => ⟨Int.le_refl _, Int.le_refl _⟩
    | succ c ih =>
      intro q
      have := ih (by omega)
      have := rf_nn H hi (show c < m by omega)
      simp only [gw, ps]
      omega
  have := ge m (Nat.le_refl _)
  unfold onX offX; omega
end Zm
set_option linter.all false
set_option autoImplicit false
/-! MV2: two rows read from the end; what is as before is so from the end. -/
namespace Mv
theorem recon_congr {W W' both both' : Nat → Int} : ∀ {m : Nat} {T : Int}, (∀ c, c ≤ m → W c = W' c) → (∀ c, c < m → both c = both' c) → recon W both m T = recon W' both' m T
  | 0, _, _, _ => rfl
  | m + 1, T, h1, h2 => by
    have e : ra W both m T = ra W' both' m T := by
      unfold ra rb
      rw [h1 (m + 1) (by omega), h1 m (by omega), h2 m (by omega)]
    have e2 : rb W m T = rb W' m T := by
      unfold rb
      rw [h1 (m + 1) (by omega), h1 m (by omega)]
    rw [recon, recon, e, e2, recon_congr (fun c hc => h1 c (by omega)) fun c hc => h2 c (by omega)]
end Mv
set_option linter.all false
set_option autoImplicit false
set_option maxRecDepth 100000
/-! GV: the law's own greatest worths, in a dict. -/
namespace Zm
open PySem Lpp Mv
/-! ### dicts as rows of pairs -/
section
variable {κ β : Type} [DecidableEq κ]
/-- a row of pairs by numbers -/
def asc (key : Nat → κ) (n : Nat) (g : Nat → β) : List (κ × β) := (List.range n).map fun j => (key j, g j)
@[simp] theorem asc_len {key : Nat → κ} {n : Nat} {g : Nat → β} : (asc key n g).length = n := by simp [asc]
theorem asc_succ {key : Nat → κ} {n : Nat} {g : Nat → β} : asc key (n + 1) g = asc key n g ++ [(key n, g n)] := by simp [asc, List.range_succ]
end
/-! ### a line's going through a row -/
def nw (old r : Nat → Int) : Nat → Int
  | 0 => max (old 0) 0 + r 0
  | j + 1 => max (old (j + 1)) (nw old r j) + r (j + 1)
def lw (w : Nat → Nat → Int) (f : Nat) : Nat → Nat → Int
  | 0 => fun _ => 0
  | t + 1 => nw (lw w f t) (fun j => w t (f + j))
/-! ### two rows -/
/-! ### as those next to one another leave -/
end Zm
set_option linter.all false
set_option autoImplicit false
set_option maxRecDepth 100000
/-! GB: greatest worths told from the last cell back; a best way. -/
namespace Lpp
section
variable {w v : Nat → Nat → Int} {i k j l n m : Nat} {W : Int}
theorem Way.nn (hw : ∀ a b, 0 ≤ w a b) (h : Way w i k j l W) : 0 ≤ W := by
  induction h with
  | one => exact hw _ _
  | @down j l W h ih => have := hw (j + 1) l; omega
  | @right j l W h ih => have := hw j (l + 1); omega
open Classical in
/-- the greatest worth, as a number -/
noncomputable def tw (w : Nat → Nat → Int) (i k j l : Nat) : Int := if h : ∃ G, Top w i k j l G then h.choose else 0
end
end Lpp
namespace Zm
open PySem Lpp
/-- a cell of the table from behind -/
structure TabB (w : Nat → Nat → Int) (n m e : Nat) (tab : List (List (Option Int))) : Prop where
  len : tab.length = n
  row : ∀ i, i < n → ∃ r, tab[i]? = some r ∧ r.length = m ∧ ∀ k, k < m → r[k]? = some (if k ≤ e then some (tw w i k (n - 1) e) else none)
section
variable {h : List (List Int)} {m : Nat} (H : HallOK h m)
include H
end
end Zm
set_option linter.all false
set_option autoImplicit false
set_option maxRecDepth 100000
/-! SHP: shapes (what one way covers, one more beside, ..): plain. -/
namespace Mv
/-- the corner's next shape -/
def nsf (a b c : Nat → Int) (x : Int) : Nat → Int
  | 0 => max (b 0) (c 0) + x
  | p + 1 => max (b (p + 1)) (c (p + 1)) + (min (b p) (c p) - a p)
/-- the shape of the first i counters and the first k customers -/
def shp (w : Nat → Nat → Int) : Nat → Nat → Nat → Int
  | 0, _ => fun _ => 0
  | _ + 1, 0 => fun _ => 0
  | i + 1, k + 1 => nsf (shp w i k) (shp w i (k + 1)) (shp w (i + 1) k) (w i k)
termination_by i k => i + k
section
variable {w v : Nat → Nat → Int}
@[simp] theorem shp_0 (k : Nat) : shp w 0 k = fun _ => 0 := by rw [shp]
@[simp] theorem shp_k0 (i : Nat) : shp w i 0 = fun _ => 0 := by
  cases i with
  | zero => rw [shp]
  | succ i => rw [shp]
theorem shp_s (i k : Nat) : shp w (i + 1) (k + 1) = nsf (shp w i k) (shp w i (k + 1)) (shp w (i + 1) k) (w i k) := by rw [shp]
/-- how a corner lies between its neighbours -/
structure Btw (a b : Nat → Int) : Prop where
  le : ∀ p, a p ≤ b p
  lt : ∀ p, b (p + 1) ≤ a p
section
variable (nn : ∀ i k, 0 ≤ w i k)
include nn
end
open Lpp
end
end Mv
set_option linter.all false
set_option autoImplicit false
set_option maxRecDepth 100000
/-! GRS: rows by putting in: what they count is the shapes. -/
namespace Mv
/-- how many are less -/
def cnt (r : List Int) (v : Nat) : Nat := (r.filter fun x => decide (x < (v : Int))).length
theorem cnt_nil (v : Nat) : cnt [] v = 0 := rfl
theorem cnt_cons (x : Int) (r : List Int) (v : Nat) : cnt (x :: r) v = (if x < (v : Int) then 1 else 0) + cnt r v := by
  unfold cnt
  by_cases h : x < (v : Int)
  · rw [List.filter_cons_of_pos (by simpa using h), if_pos h, List.length_cons]; omega
  · rw [List.filter_cons_of_neg (by simpa using h), if_neg h]; omega
theorem cnt_app (a b : List Int) (v : Nat) : cnt (a ++ b) v = cnt a v + cnt b v := by
  unfold cnt; rw [List.filter_append, List.length_append]
theorem cnt_mono (r : List Int) {v u : Nat} (h : v ≤ u) : cnt r v ≤ cnt r u := by
  induction r with
  | nil => simp [cnt_nil]
  | cons x r ih =>
    rw [cnt_cons, cnt_cons]
    by_cases a : x < (v : Int)
    · rw [if_pos a, if_pos (show x < (u : Int) by omega)]; omega
    · rw [if_neg a]; omega
theorem cnt_zero {r : List Int} {v : Nat} (h : ∀ x ∈ r, (v : Int) ≤ x) : cnt r v = 0 := by
  unfold cnt
  rw [List.filter_eq_nil_iff.mpr fun x hx => by have := h x hx; simp; omega]; rfl
theorem cnt_all {r : List Int} {v : Nat} (h : ∀ x ∈ r, x < (v : Int)) : cnt r v = r.length := by
  unfold cnt
  rw [List.filter_eq_self.mpr fun x hx => by simpa using h x hx]
/-- a letter put into a row: the row, and who goes on -/
def bump : List Int → Int → List Int × Option Int
  | [], k => ([k], none)
  | x :: r, k => if k < x then (k :: r, some x) else (x :: (bump r k).1, (bump r k).2)
def Srt (r : List Int) : Prop := r.Pairwise (· ≤ ·)
theorem bump_mem {r : List Int} {k : Int} : ∀ y ∈ (bump r k).1, y = k ∨ y ∈ r := by
  induction r with
  | nil => intro y hy; left; simpa [bump] using hy
  | cons x r ih =>
    intro y hy
    unfold bump at hy
    split at hy
    · rcases List.mem_cons.mp hy with h | h
      · exact .inl h
      · exact .inr (List.mem_cons_of_mem _ h)
    · rcases List.mem_cons.mp hy with h | h
      · exact .inr (by rw [h]; exact List.mem_cons_self ..)
      · rcases ih y h with h | h
        · exact .inl h
        · exact .inr (List.mem_cons_of_mem _ h)
theorem bump_srt {r : List Int} {k : Int} (h : Srt r) : Srt (bump r k).1 := by
  induction r with
  | nil => exact List.pairwise_singleton _ _
  | cons x r ih =>
    have h' := List.pairwise_cons.mp h
    unfold bump
    split
    · rename_i c
      exact List.pairwise_cons.mpr ⟨fun y hy => by have := h'.1 y hy; omega, h'.2⟩
    · rename_i c
      refine List.pairwise_cons.mpr ⟨fun y hy => ?_, ih h'.2⟩
      rcases bump_mem y hy with h | h
      · omega
      · exact h'.1 y h
theorem bump_len {r : List Int} {k : Int} : (bump r k).1.length ≤ r.length + 1 := by
  induction r with
  | nil => simp [bump]
  | cons x r ih =>
    unfold bump
    split
    · simp
    · simp; omega
def one (o : Option Int) (v : Nat) : Nat := match o with
  | none => 0
  | some y => if y < (v : Int) then 1 else 0
/-- nothing is lost -/
theorem bump_keep {r : List Int} {k : Int} (v : Nat) : cnt (bump r k).1 v + one (bump r k).2 v = cnt r v + one (some k) v := by
  induction r with
  | nil => simp [bump, one, cnt_cons, cnt_nil]
  | cons x r ih =>
    unfold bump
    split
    · simp only [cnt_cons, one]; omega
    · simp only [cnt_cons, one] at ih ⊢; omega
theorem bump_cnt {r : List Int} {k : Nat} (h : Srt r) (v : Nat) : cnt (bump r k).1 v = if v ≤ k then cnt r v else max (cnt r v) (cnt r (k + 1) + 1) := by
  induction r with
  | nil =>
    simp only [bump, cnt_cons, cnt_nil]
    split <;> split <;> omega
  | cons x r ih =>
    have h' := List.pairwise_cons.mp h
    have ih := ih h'.2
    unfold bump
    by_cases c : (k : Int) < x
    · rw [if_pos c]
      simp only [cnt_cons]
      have z : cnt r (k + 1) = 0 := cnt_zero fun y hy => by have := h'.1 y hy; omega
      rw [z, if_neg (show ¬ x < ((k + 1 : Nat) : Int) by omega)]
      by_cases a : v ≤ k
      · rw [if_pos a, if_neg (show ¬ (k : Int) < (v : Int) by omega), if_neg (show ¬ x < (v : Int) by omega)]
      · rw [if_neg a, if_pos (show (k : Int) < (v : Int) by omega)]
        by_cases b : x < (v : Int)
        · rw [if_pos b]; omega
        · have : cnt r v = 0 := cnt_zero fun y hy => by have := h'.1 y hy; omega
          rw [if_neg b, this]; omega
    · rw [if_neg c]
      simp only [cnt_cons, ih]
      rw [if_pos (show x < ((k + 1 : Nat) : Int) by omega)]
      by_cases a : v ≤ k
      · rw [if_pos a, if_pos a]
      · rw [if_neg a, if_neg a, if_pos (show x < (v : Int) by omega)]; omega
/-- who goes on: the least that is greater -/
theorem bump_out {r : List Int} {k : Int} (h : Srt r) : match (bump r k).2 with
    | some y => y ∈ r ∧ k < y ∧ ∀ e ∈ r, k < e → y ≤ e
    | none => ∀ e ∈ r, e ≤ k := by
  induction r with
  | nil => simp [bump]
  | cons x r ih =>
    have h' := List.pairwise_cons.mp h
    have ih := ih h'.2
    unfold bump
    by_cases c : k < x
    · rw [if_pos c]
      refine ⟨List.mem_cons_self .., c, fun e he _ => ?_⟩
      rcases List.mem_cons.mp he with z | z
      · omega
      · exact h'.1 e z
    · rw [if_neg c]
      cases o : (bump r k).2 with
      | none =>
        rw [o] at ih
        intro e he
        rcases List.mem_cons.mp he with z | z
        · omega
        · exact ih e z
      | some y =>
        rw [o] at ih
        refine ⟨List.mem_cons_of_mem _ ih.1, ih.2.1, fun e he hk => ?_⟩
        rcases List.mem_cons.mp he with z | z
        · omega
        · exact ih.2.2 e z hk
/-- letters put into a row, one by one: the row, and those who go on -/
def fRow (r : List Int) : List Int → List Int × List Int
  | [] => (r, [])
  | k :: u => let b := bump r k; let f := fRow b.1 u; (f.1, b.2.toList ++ f.2)
theorem fRow_cons (r : List Int) (k : Int) (u : List Int) : fRow r (k :: u) = ((fRow (bump r k).1 u).1, (bump r k).2.toList ++ (fRow (bump r k).1 u).2) := rfl
theorem fRow_app (r u l : List Int) : fRow r (u ++ l) = ((fRow (fRow r u).1 l).1, (fRow r u).2 ++ (fRow (fRow r u).1 l).2) := by
  induction u generalizing r with
  | nil => simp [fRow]
  | cons k u ih =>
    rw [List.cons_append, fRow_cons, fRow_cons, ih]
    simp only [List.append_assoc]
theorem fRow_snoc (r u : List Int) (k : Int) : fRow r (u ++ [k]) = ((bump (fRow r u).1 k).1, (fRow r u).2 ++ (bump (fRow r u).1 k).2.toList) := by
  rw [fRow_app]
  simp [fRow]
/-- what the row counts then -/
def rq (a X : Nat → Int) : Nat → Int
  | 0 => 0
  | k + 1 => max (rq a X k) (a (k + 1)) + (X (k + 1) - X k)
theorem rq_le {a X Y : Nat → Int} : ∀ {v : Nat}, (∀ j, j ≤ v → X j = Y j) → rq a X v = rq a Y v
  | 0, _ => rfl
  | k + 1, h => by
    unfold rq
    rw [rq_le fun j hj => h j (by omega), h (k + 1) (by omega), h k (by omega)]
/-- letters below m -/
def Low (m : Nat) (r : List Int) : Prop := ∀ x ∈ r, 0 ≤ x ∧ x < (m : Int)
structure RowOK (m : Nat) (r u r' o : List Int) : Prop where
  srt : Srt r'
  low : Low m r'
  out : Srt o
  olow : Low m o
  cn : ∀ v, (cnt r' v : Int) = rq (fun v => cnt r v) (fun v => cnt u v) v
  keep : ∀ v, cnt r' v + cnt o v = cnt r v + cnt u v
  far : ∀ k, (∀ x ∈ u, x ≤ k) → ∀ y ∈ o, ∀ e ∈ r', k < e → y ≤ e
theorem cnt_toList (o : Option Int) (v : Nat) : cnt o.toList v = one o v := by
  cases o with
  | none => rfl
  | some y => simp [one, cnt_cons, cnt_nil]
theorem rq_snoc {a X : Nat → Int} {k : Nat} (hX : ∀ v, k + 1 ≤ v → X v = X (k + 1)) : ∀ d, rq a (fun v => X v + if k < v then 1 else 0) (k + 1 + d) = max (rq a X (k + 1 + d)) (rq a X (k + 1) + 1)
  | 0 => by
    have e : rq a (fun v => X v + if k < v then 1 else 0) k = rq a X k := rq_le fun j hj => by
      rw [if_neg (by omega)]; omega
    show rq a _ (k + 1) = max (rq a X (k + 1)) _
    unfold rq
    rw [e]
    rw [if_pos (by omega), if_neg (by omega)]
    omega
  | d + 1 => by
    have ih := rq_snoc (a := a) hX d
    have h1 := hX (k + 1 + d) (by omega)
    have h2 := hX (k + 1 + d + 1) (by omega)
    show rq a (fun v => X v + if k < v then 1 else 0) (k + 1 + d + 1) = max (rq a X (k + 1 + d + 1)) _
    have u1 : ∀ Y, rq a Y (k + 1 + d + 1) = max (rq a Y (k + 1 + d)) (a (k + 1 + d + 1)) + (Y (k + 1 + d + 1) - Y (k + 1 + d)) := fun Y => by rw [rq]
    rw [u1, u1, ih]
    rw [if_pos (by omega), if_pos (by omega)]
    omega
theorem row_ok {m : Nat} {r : List Int} (hr : Srt r) (hl : Low m r) : ∀ n, ∀ u : List Int, u.length = n → Srt u → Low m u → RowOK m r u (fRow r u).1 (fRow r u).2
  | 0, u, hn, _, _ => by
    have : u = [] := List.eq_nil_of_length_eq_zero hn
    subst this
    refine ⟨hr, hl, List.Pairwise.nil, fun x hx => (by cases hx), fun v => ?_, fun v => rfl, fun k _ y hy => (by cases hy)⟩
    show (cnt r v : Int) = _
    induction v with
    | zero => simp only [rq]; rw [cnt_zero fun x hx => (hl x hx).1]; rfl
    | succ k ih =>
      unfold rq
      rw [← ih]
      have := cnt_mono r (show k ≤ k + 1 by omega)
      simp only [cnt_nil]
      omega
  | n + 1, u0, hn, su, lu => by
    obtain ⟨u, k0, rfl⟩ : ∃ u k, u0 = u ++ [k] := by
      have : u0 ≠ [] := fun e => by rw [e] at hn; simp at hn
      exact ⟨u0.dropLast, u0.getLast this, (List.dropLast_concat_getLast this).symm⟩
    have lk := lu k0 (by simp)
    obtain ⟨k, rfl⟩ := Int.eq_ofNat_of_zero_le lk.1
    have su' := List.pairwise_append.mp su
    have uk : ∀ x ∈ u, x ≤ (k : Int) := fun x hx => su'.2.2 x hx _ (by simp)
    have ih := row_ok hr hl n u (by simpa using hn) su'.1 fun x hx => lu x (by simp [hx])
    rw [fRow_snoc]
    have bo := bump_out (k := (k : Int)) ih.srt
    have bk := fun v => bump_keep (r := (fRow r u).1) (k := (k : Int)) v
    refine ⟨bump_srt ih.srt, fun x hx => ?_, ?_, ?_, fun v => ?_, fun v => ?_, fun q hq y hy e he hqe => ?_⟩
    · rcases bump_mem x hx with z | z
      · rw [z]; exact lk
      · exact ih.low x z
    · show Srt ((fRow r u).2 ++ (bump (fRow r u).1 k).2.toList)
      refine List.pairwise_append.mpr ⟨ih.out, ?_, fun y hy e he => ?_⟩
      · cases (bump (fRow r u).1 k).2 with
        | none => exact List.Pairwise.nil
        | some y => exact List.pairwise_singleton _ _
      · cases o : (bump (fRow r u).1 k).2 with
        | none => rw [o] at he; cases he
        | some z =>
          rw [o] at he bo
          have : e = z := by simpa using he
          subst this
          exact ih.far k uk y hy e bo.1 bo.2.1
    · intro x hx
      rcases List.mem_append.mp hx with z | z
      · exact ih.olow x z
      · cases o : (bump (fRow r u).1 k).2 with
        | none => rw [o] at z; cases z
        | some y =>
          rw [o] at z bo
          have : x = y := by simpa using z
          subst this
          exact ih.low x bo.1
    · rw [bump_cnt ih.srt]
      have eX : (fun v => ((cnt (u ++ [(k : Int)]) v : Nat) : Int)) = fun v => (cnt u v : Int) + if k < v then 1 else 0 := by
        funext v
        rw [cnt_app, cnt_cons, cnt_nil]
        by_cases c : k < v
        · rw [if_pos (show ((k : Nat) : Int) < (v : Int) by omega), if_pos c]; omega
        · rw [if_neg (show ¬ ((k : Nat) : Int) < (v : Int) by omega), if_neg c]; omega
      rw [eX]
      have cX : ∀ v, k + 1 ≤ v → (cnt u v : Int) = (cnt u (k + 1) : Int) := fun v hv => by
        rw [cnt_all fun x hx => by have := uk x hx; omega, cnt_all fun x hx => by have := uk x hx; omega]
      by_cases c : v ≤ k
      · rw [if_pos c, ih.cn v]
        exact rq_le fun j hj => by rw [if_neg (by omega)]; omega
      · rw [if_neg c]
        obtain ⟨d, rfl⟩ : ∃ d, v = k + 1 + d := ⟨v - (k + 1), by omega⟩
        rw [rq_snoc (a := fun v => (cnt r v : Int)) (X := fun v => (cnt u v : Int)) cX d, ← ih.cn, ← ih.cn]
        omega
    · have a := ih.keep v
      have b := bk v
      rw [cnt_app, cnt_toList, cnt_app, cnt_cons, cnt_nil]
      simp only [one] at b ⊢
      omega
    · have kq : (k : Int) ≤ q := hq _ (by simp)
      have he' : e ∈ (fRow r u).1 := by
        rcases bump_mem e he with z | z
        · omega
        · exact z
      rcases List.mem_append.mp hy with z | z
      · exact ih.far q (fun x hx => hq x (by simp [hx])) y z e he' hqe
      · cases o : (bump (fRow r u).1 k).2 with
        | none => rw [o] at z; cases z
        | some w =>
          rw [o] at z bo
          have : y = w := by simpa using z
          subst this
          exact bo.2.2 e he' (by omega)
/-! ### all rows -/
def pin : List (List Int) → Option Int → List (List Int)
  | T, none => T
  | [], some k => [[k]]
  | r :: T, some k => (bump r k).1 :: pin T (bump r k).2
def rw0 (T : List (List Int)) (p : Nat) : List Int := T.getD p []
/-- who comes to row p -/
def com (T : Nat → List Int) (o : Option Int) : Nat → Option Int
  | 0 => o
  | p + 1 => match com T o p with
    | none => none
    | some k => (bump (T p) k).2
theorem com_none {T : Nat → List Int} : ∀ p, com T none p = none
  | 0 => rfl
  | p + 1 => by unfold com; rw [com_none p]
theorem com_succ {T : Nat → List Int} {k : Int} : ∀ p, com T (some k) (p + 1) = com (fun q => T (q + 1)) (bump (T 0) k).2 p
  | 0 => rfl
  | p + 1 => by
    have := com_succ (T := T) (k := k) p
    rw [com, this]
    rfl
theorem ins_row : ∀ (T : List (List Int)) (o : Option Int) (p : Nat), rw0 (pin T o) p = match com (rw0 T) o p with
    | none => rw0 T p
    | some k => (bump (rw0 T p) k).1
  | T, none, p => by rw [com_none]; cases T <;> rfl
  | [], some k, 0 => rfl
  | [], some k, p + 1 => by
    rw [com_succ]
    have : (bump (rw0 [] 0) k).2 = none := rfl
    rw [this, com_none]
    simp [pin, rw0]
  | r :: T, some k, 0 => rfl
  | r :: T, some k, p + 1 => by
    rw [com_succ]
    have := ins_row T (bump r k).2 p
    show rw0 (pin T (bump r k).2) p = _
    rw [this]
    rfl
def pinW (T : List (List Int)) (u : List Int) : List (List Int) := u.foldl (fun T k => pin T (some k)) T
theorem insW_snoc (T : List (List Int)) (u : List Int) (k : Int) : pinW T (u ++ [k]) = pin (pinW T u) (some k) := by unfold pinW; rw [List.foldl_append]; rfl
/-- all that come to row p -/
def seqs (T : Nat → List Int) (u : List Int) : Nat → List Int
  | 0 => u
  | p + 1 => (fRow (T p) (seqs T u p)).2
theorem insW_row (T : List (List Int)) : ∀ n, ∀ u : List Int, u.length = n → ∀ p, rw0 (pinW T u) p = (fRow (rw0 T p) (seqs (rw0 T) u p)).1
  | 0, u, hn, p => by
    have : u = [] := List.eq_nil_of_length_eq_zero hn
    subst this
    have z : ∀ p, seqs (rw0 T) [] p = [] := by
      intro p
      induction p with
      | zero => rfl
      | succ p ih => unfold seqs; rw [ih]; rfl
    rw [z]; rfl
  | n + 1, u0, hn, p => by
    obtain ⟨u, k, rfl⟩ : ∃ u k, u0 = u ++ [k] := by
      have : u0 ≠ [] := fun e => by rw [e] at hn; simp at hn
      exact ⟨u0.dropLast, u0.getLast this, (List.dropLast_concat_getLast this).symm⟩
    have ih := insW_row T n u (by simpa using hn)
    have key : ∀ p, seqs (rw0 T) (u ++ [k]) p = seqs (rw0 T) u p ++ (com (rw0 (pinW T u)) (some k) p).toList := by
      intro p
      induction p with
      | zero => rfl
      | succ p q =>
        unfold seqs com
        rw [q]
        cases o : com (rw0 (pinW T u)) (some k) p with
        | none => simp
        | some y =>
          simp only [Option.toList_some]
          rw [fRow_snoc, ← ih p]
    rw [insW_snoc, ins_row, key]
    cases o : com (rw0 (pinW T u)) (some k) p with
    | none => simp only [Option.toList_none, List.append_nil]; exact ih p
    | some y =>
      simp only [Option.toList_some]
      rw [fRow_snoc, ← ih p]
/-- the rows count the shapes -/
structure Tab (w : Nat → Nat → Int) (i m : Nat) (T : List (List Int)) : Prop where
  srt : ∀ p, Srt (rw0 T p)
  low : ∀ p, Low m (rw0 T p)
  cn : ∀ p v, v ≤ m → (cnt (rw0 T p) v : Int) = shp w i v p
theorem tab_nil {w : Nat → Nat → Int} {m : Nat} : Tab w 0 m [] := ⟨fun p => by simp [rw0, Srt], fun p x hx => (by simp [rw0] at hx), fun p v _ => by simp [rw0, cnt_nil]⟩
theorem tab_step {w : Nat → Nat → Int} {i m : Nat} {T : List (List Int)} (t : Tab w i m T) {u : List Int} (su : Srt u) (lu : Low m u) (hu : ∀ v, v ≤ m → (cnt u v : Int) = ps (w i) v) : Tab w (i + 1) m (pinW T u) := by
  have all : ∀ p, Srt (seqs (rw0 T) u p) ∧ Low m (seqs (rw0 T) u p) := by
    intro p
    induction p with
    | zero => exact ⟨su, lu⟩
    | succ p ih =>
      have := row_ok (t.srt p) (t.low p) _ _ rfl ih.1 ih.2
      exact ⟨this.out, this.olow⟩
  have ok : ∀ p, RowOK m (rw0 T p) (seqs (rw0 T) u p) (rw0 (pinW T u) p) (seqs (rw0 T) u (p + 1)) := fun p => by
    have := row_ok (t.srt p) (t.low p) _ _ rfl (all p).1 (all p).2
    rw [insW_row T _ u rfl p]
    exact this
  refine ⟨fun p => (ok p).srt, fun p => (ok p).low, fun p v hv => ?_⟩
  induction v generalizing p with
  | zero => rw [cnt_zero fun x hx => ((ok p).low x hx).1]; simp
  | succ k ih =>
    have stp : ∀ p, (cnt (rw0 (pinW T u) p) (k + 1) : Int) = max (shp w (i + 1) k p) (shp w i (k + 1) p) + ((cnt (seqs (rw0 T) u p) (k + 1) : Int) - cnt (seqs (rw0 T) u p) k) := fun p => by
      rw [(ok p).cn (k + 1)]
      unfold rq
      rw [← (ok p).cn k, ih p (by omega), t.cn p (k + 1) hv]
    rw [stp p, shp_s]
    cases p with
    | zero =>
      show _ = max (shp w i (k + 1) 0) (shp w (i + 1) k 0) + w i k
      have a := hu (k + 1) hv
      have b := hu k (by omega)
      have e : ps (w i) (k + 1) = ps (w i) k + w i k := rfl
      have z : seqs (rw0 T) u 0 = u := rfl
      rw [z]; omega
    | succ p =>
      show _ = max (shp w i (k + 1) (p + 1)) (shp w (i + 1) k (p + 1)) + (min (shp w i (k + 1) p) (shp w (i + 1) k p) - shp w i k p)
      have a := (ok p).keep (k + 1)
      have b := (ok p).keep k
      have c := stp p
      have d := ih p (by omega)
      have e := t.cn p (k + 1) hv
      have f := t.cn p k (by omega)
      omega
end Mv
set_option linter.all false
set_option autoImplicit false
set_option maxRecDepth 100000
/-! GX: halls of the third kind of draws; how many minutes may be moved at the most. -/
namespace Zm
open PySem Lpp Mv
--@ minutes and halls of the third kind of draws
end Zm
set_option linter.all false
set_option autoImplicit false
set_option maxRecDepth 100000
/-! GN: what is moved, further facts: rows, totals, moved again, read from the end. -/
namespace Zm
open PySem Lpp Mv
theorem ps_plus {a b : Nat → Int} : ∀ {k : Nat}, ps (fun c => a c + b c) k = ps a k + ps b k
  | 0 => rfl
  | k + 1 => by simp only [ps, ps_plus (k := k)]; omega
section
variable {P S : List (List Int)} {r1 r2 : List Int}
theorem mid_0 : (P ++ [r1, r2] ++ S)[P.length]? = some r1 := by simp
theorem mid_1 : (P ++ [r1, r2] ++ S)[P.length + 1]? = some r2 := by
  rw [List.append_assoc, List.getElem?_append_right (by omega)]
  simp
theorem mid_take : (P ++ [r1, r2] ++ S).take P.length = P := by simp
theorem mid_drop : (P ++ [r1, r2] ++ S).drop (P.length + 2) = S := by
  rw [List.append_assoc, List.drop_append]
  simp
end
theorem rf_at {h : List (List Int)} {i : Nat} {f : Nat → Int} {m c : Nat} (e : h[i]? = some (lst f m)) (hc : c < m) : rf h i c = f c := by
  unfold rf at2
  rw [List.getD_eq_getElem?_getD (l := h), e, Option.getD_some, List.getD_eq_getElem?_getD, lst_get hc]; rfl
/-- two halls that are alike but for two rows -/
theorem new_is {x y P S : List (List Int)} {m : Nat} {a b A B : Nat → Int} (hx : x = P ++ [lst a m, lst b m] ++ S) (hy : y = P ++ [lst A m, lst B m] ++ S)
    (hw : ∀ c, c ≤ m → gw A B c = gw a b c) (hs : ∀ c, c < m → A c + B c = a c + b c) : newH x P.length m (ps A m) = y := by
  subst hx hy
  have e1 : ∀ c, c < m → rf (P ++ [lst a m, lst b m] ++ S) P.length c = a c := fun c hc => rf_at mid_0 hc
  have e2 : ∀ c, c < m → rf (P ++ [lst a m, lst b m] ++ S) (P.length + 1) c = b c := fun c hc => rf_at mid_1 hc
  unfold newH
  rw [mid_take, mid_drop]
  have er : rec2 (P ++ [lst a m, lst b m] ++ S) P.length m (ps A m) = recon (gw A B) (fun c => A c + B c) m (ps A m) := by
    unfold rec2
    refine recon_congr (fun c hc => ?_) fun c hc => ?_
    · rw [hw c hc]
      exact gw_congr fun d hd => ⟨e1 d (by omega), e2 d (by omega)⟩
    · rw [hs c hc, e1 c hc, e2 c hc]
  rw [er]
  have one := recon_one (a := A) (b := B) m (gw A B) (fun c => A c + B c) (fun _ _ => rfl) fun _ _ => rfl
  have len := recon_len (W := gw A B) (both := fun c => A c + B c) m (ps A m)
  have f1 : (recon (gw A B) (fun c => A c + B c) m (ps A m)).map (·.1) = lst A m := lst_eq (by simpa using len) fun c hc => by
    rw [← (one c hc).1]; unfold fa
    rw [List.getElem?_map, List.getElem?_eq_getElem (by omega), List.getD_eq_getElem?_getD, List.getElem?_eq_getElem (by omega)]; rfl
  have f2 : (recon (gw A B) (fun c => A c + B c) m (ps A m)).map (·.2) = lst B m := lst_eq (by simpa using len) fun c hc => by
    rw [← (one c hc).2]; unfold fb
    rw [List.getElem?_map, List.getElem?_eq_getElem (by omega), List.getD_eq_getElem?_getD, List.getElem?_eq_getElem (by omega)]; rfl
  rw [f1, f2]
section
variable {h : List (List Int)} {m i : Nat} (H : HallOK h m) (hi : i + 1 < h.length) {T : Int}
include H hi
theorem hall_split : h = h.take i ++ [lst (rf h i) m, lst (rf h (i + 1)) m] ++ h.drop (i + 2) ∧ (h.take i).length = i := by
  obtain ⟨r1, r2, e, rfl, rfl⟩ := split2 H hi
  exact ⟨e, by simp; omega⟩
variable (h1 : ps (rf h i) m + ps (rf h (i + 1)) m - gw (rf h i) (rf h (i + 1)) m ≤ T) (h2 : T ≤ gw (rf h i) (rf h (i + 1)) m)
include h1 h2
theorem new_split : newH h i m T = h.take i ++ [lst (fa (rec2 h i m T)) m, lst (fb (rec2 h i m T)) m] ++ h.drop (i + 2) := by
  have := new_rows H hi h1 h2
  unfold newH
  rw [this.1, this.2]
theorem new_rf {c : Nat} (hc : c < m) : rf (newH h i m T) i c = fa (rec2 h i m T) c ∧ rf (newH h i m T) (i + 1) c = fb (rec2 h i m T) c := by
  have l := (hall_split H hi).2
  have e := new_split H hi h1 h2
  refine ⟨rf_at ?_ hc, rf_at ?_ hc⟩
  · rw [e]; have := mid_0 (P := h.take i) (r1 := lst (fa (rec2 h i m T)) m) (r2 := lst (fb (rec2 h i m T)) m) (S := h.drop (i + 2)); rw [l] at this; exact this
  · rw [e]; have := mid_1 (P := h.take i) (r1 := lst (fa (rec2 h i m T)) m) (r2 := lst (fb (rec2 h i m T)) m) (S := h.drop (i + 2)); rw [l] at this; exact this
/-- what is so of the two rows -/
theorem new_facts : HallOK (newH h i m T) m ∧ (newH h i m T).length = h.length ∧ ps (rf (newH h i m T) i) m = T ∧ ps (rf (newH h i m T) (i + 1)) m = ps (rf h i) m + ps (rf h (i + 1)) m - T ∧
    (∀ c, c ≤ m → gw (rf (newH h i m T) i) (rf (newH h i m T) (i + 1)) c = gw (rf h i) (rf h (i + 1)) c) ∧ (∀ c, c < m → rf (newH h i m T) i c + rf (newH h i m T) (i + 1) c = rf h i c + rf h (i + 1) c) ∧
    Eqv m (rf h i) (rf h (i + 1)) (rf (newH h i m T) i) (rf (newH h i m T) (i + 1)) := by
  obtain ⟨r0, r1, r2, r3, r4⟩ := rec2_ok H hi h1 h2
  have nr : ∀ c, c < m → rf (newH h i m T) i c = fa (rec2 h i m T) c ∧ rf (newH h i m T) (i + 1) c = fb (rec2 h i m T) c := fun c hc => new_rf H hi h1 h2 hc
  have n := new_hall H hi h1 h2
  have s1 : ps (rf (newH h i m T) i) m = T := by rw [ps_congr fun c hc => (nr c hc).1]; exact r2
  have hs : ∀ c, c < m → rf (newH h i m T) i c + rf (newH h i m T) (i + 1) c = rf h i c + rf h (i + 1) c := fun c hc => by rw [(nr c hc).1, (nr c hc).2]; exact (r1 c hc).2.2
  refine ⟨n.1, n.2, s1, ?_, fun c hc => ?_, hs, ?_⟩
  · have : ps (rf (newH h i m T) i) m + ps (rf (newH h i m T) (i + 1)) m = ps (rf h i) m + ps (rf h (i + 1)) m := by rw [← ps_plus, ← ps_plus]; exact ps_congr hs
    omega
  · rw [← r3 c hc]; exact gw_congr fun d hd => nr d (by omega)
  · exact ⟨r4.1.trans (.congr fun c hc => ⟨(nr c hc).1.symm, (nr c hc).2.symm⟩), (Dom.congr fun c hc => nr c hc).trans r4.2⟩
/-- moved once more -/
theorem new_new (U : Int) : newH (newH h i m T) i m U = newH h i m U := by
  obtain ⟨n1, n2, n3, n4, n5, n6, n7⟩ := new_facts H hi h1 h2
  have l := (hall_split H hi).2
  have e := new_split H hi h1 h2
  have t1 : (newH h i m T).take i = h.take i := by rw [e]; have := mid_take (P := h.take i) (r1 := lst (fa (rec2 h i m T)) m) (r2 := lst (fb (rec2 h i m T)) m) (S := h.drop (i + 2)); rw [l] at this; exact this
  have t2 : (newH h i m T).drop (i + 2) = h.drop (i + 2) := by rw [e]; have := mid_drop (P := h.take i) (r1 := lst (fa (rec2 h i m T)) m) (r2 := lst (fb (rec2 h i m T)) m) (S := h.drop (i + 2)); rw [l] at this; exact this
  have er : rec2 (newH h i m T) i m U = rec2 h i m U := recon_congr n5 n6
  rw [newH, t1, t2, er]; rfl
end
/-! ### read from the end -/
section
variable {h : List (List Int)} {m i : Nat} (H : HallOK h m) (hi : i + 1 < h.length)
include H hi
end
end Zm
set_option linter.all false
set_option autoImplicit false
set_option maxRecDepth 100000
/-! GY: one minute moved. -/
namespace Zm
open PySem Lpp Mv
structure Last (a b : Nat → Int) (m k : Nat) : Prop where
  lt : k < m
  ge : ∀ c, c < m → lead a b c ≤ lead a b k
  last : ∀ c, k < c → c < m → lead a b c < lead a b k
/-! ### places in a row -/
/-! ### one minute at k -/
section
variable {h : List (List Int)} {m i : Nat} (H : HallOK h m) (hi : i + 1 < h.length)
include H hi
end
end Zm
set_option linter.all false
set_option autoImplicit false
set_option maxRecDepth 100000
/-! AL: what is alike: a thing and itself. -/
namespace Zm
open PySem
mutual
/-- ints, none, tuples and lists of such, n deep at the most -/
def okA : Nat → D → Bool
  | _, .int _ => true
  | _, .non => true
  | _, .bl _ => true
  | n + 1, .tup ds => decide (ds.length ≤ 1000) && okAs n ds
  | n + 1, .lst o ds => !o && decide (ds.length ≤ 1000) && okAs n ds
  | _, _ => false
def okAs : Nat → List D → Bool
  | _, [] => true
  | n, d :: ds => okA n d && okAs n ds
end
mutual
theorem okA_fz : ∀ {n : Nat} {d : D}, okA n d = true → fz d = d
  | _, .int _, _ => rfl
  | _, .non, _ => rfl
  | _, .bl _, _ => rfl
  | n + 1, .tup ds, h => by
    simp only [okA, Bool.and_eq_true] at h
    simp [okAs_fz h.2]
  | n + 1, .lst o ds, h => by
    simp only [okA, Bool.and_eq_true] at h
    simp [okAs_fz h.2]
    simpa using h.1.1
  | 0, .tup _, h => by simp [okA] at h
  | 0, .lst _ _, h => by simp [okA] at h
  | _, .str _, h => by simp [okA] at h
  | _, .dic _ _ _ _, h => by simp [okA] at h
  | _, .box _, h => by simp [okA] at h
  | _, .fn _, h => by simp [okA] at h
  | _, .ty _, h => by simp [okA] at h
  | _, .ro _, h => by simp [okA] at h
  | _, .exc _ _, h => by simp [okA] at h
theorem okAs_fz : ∀ {n : Nat} {ds : List D}, okAs n ds = true → fzs ds = ds
  | _, [], _ => rfl
  | n, d :: ds, h => by
    simp only [okAs, Bool.and_eq_true] at h
    simp [okA_fz h.1, okAs_fz h.2]
end
end Zm
set_option linter.all false
set_option autoImplicit false
set_option maxRecDepth 100000
namespace Zm
open PySem
theorem eq_bl {s : Sto} {a b : Bool} : gEq s [.bl a, .bl b] = some (.bl (a == b)) := by cases a <;> cases b <;> rfl
theorem ne_bl {s : Sto} {a b : Bool} : gNe s [.bl a, .bl b] = some (.bl (!(a == b))) := by cases a <;> cases b <;> rfl
theorem tup_2 {s : Sto} {a b : D} : gTup s [a, b] = some (.tup [a, b]) := by
  unfold gTup
  rw [if_pos (show [a, b].length ≤ sizeLine from Nat.le_trans (by decide : 2 ≤ 1000000) szl)]
theorem isi2_lt {s : Sto} {x : D} {a : String} (h : tyOf x = some a) : gIsi2 s [x, .tup [.ty "list", .ty "tuple"]] = some (.bl (isiB a "list" || isiB a "tuple")) := by
  simp only [gIsi2, h, Option.bind_some]; rfl
theorem isi_k {s : Sto} {x : D} {a b : String} (h : tyOf x = some a) (hb : knownT b = true) : gIsi s [x, .ty b] = some (.bl (isiB a b)) := by
  simp only [gIsi, h, Option.bind_some]; rw [if_pos hb]
end Zm
namespace Zm
open PySem
theorem rng_mem {k : Nat} {d : D} (h : d ∈ rng 0 k 1 k) : ∃ j : Nat, j < k ∧ d = .int (j : Int) := by
  unfold rng at h
  obtain ⟨j, hj, rfl⟩ := List.mem_map.mp h
  exact ⟨j, List.mem_range.mp hj, by simp⟩
theorem isi_2f {s : Sto} {x : D} (h : tyOf x = some "int" ∨ tyOf x = some "NoneType" ∨ tyOf x = some "bool") : gIsi2 s [x, .tup [.ty "list", .ty "tuple"]] = some (.bl false) := by
  rcases h with h | h | h <;> rw [isi2_lt h] <;> rfl
theorem isi_2t {s : Sto} {x : D} (h : tyOf x = some "list" ∨ tyOf x = some "tuple") : gIsi2 s [x, .tup [.ty "list", .ty "tuple"]] = some (.bl true) := by
  rcases h with h | h <;> rw [isi2_lt h] <;> rfl
theorem alike3_c {n : Nat} {d : D} {ds : List D} {s : Sto} (hd : fz d = d) (hl : gLen s [d] = some (.int (ds.length : Nat))) (h1 : ds.length ≤ 1000) (hx : ∀ j (hj : j < ds.length), gIx s [d, .int (j : Int)] = some ds[j])
    (ih : ∀ e ∈ ds, f__law_alike_8dc4_r n [e, e] s = .ok (.bl true) s) : f__law_alike_8dc4_c1 (f__law_alike_8dc4_r n) [some d, some d, none] s = .ok (.lst true (List.replicate ds.length (.bl true))) s := by
  have := mLc_map (src := iR1 [mOp gLen [mVar 1]]) (tg := .nm 2) (vs := [2]) (m := mCall (f__law_alike_8dc4_r n) [mOp gIx [mVar 0, mVar 2], mOp gIx [mVar 1, mVar 2]]) (σ := [some d, some d, none]) (s := s) (s' := s) (ds := rng 0 ds.length 1 ds.length) (fun _ => .bl true)
    (iR1_ok (j := (ds.length : Nat)) (by simp only [mArgs, mOp, mVar, List.getElem?_cons_succ, List.getElem?_cons_zero, hd, R.bind_ok, hl, R.of_some]) (by omega) (by omega)) rfl (fun z hz => by
      obtain ⟨j, hj, rfl⟩ := rng_mem hz
      refine ⟨_, rfl, ?_⟩
      simp only [mCall, mArgs, mOp, mVar, wipeE, fzE, List.map_cons, List.map_nil, Option.map_some, Option.map_none, List.set_cons_zero, List.set_cons_succ, List.getElem?_cons_succ, List.getElem?_cons_zero, hd, fz, R.bind_ok, hx j hj, R.of_some, ih _ (List.getElem_mem hj)]) (by rw [rng_length]; omega)
  rw [map_const, rng_length] at this
  exact this
theorem alike3_seq {n : Nat} {d : D} {ds : List D} {s : Sto} (hd : fz d = d) (ht : tyOf d = some "list" ∨ tyOf d = some "tuple") (hl : gLen s [d] = some (.int (ds.length : Nat))) (h1 : ds.length ≤ 1000) (hx : ∀ j (hj : j < ds.length), gIx s [d, .int (j : Int)] = some ds[j])
    (ih : ∀ e ∈ ds, f__law_alike_8dc4_r n [e, e] s = .ok (.bl true) s) : f__law_alike_8dc4_r (n + 1) [d, d] s = .ok (.bl true) s := by
  have key := alike3_c hd hl h1 hx ih
  have ty : ∃ a, tyOf d = some a := by rcases ht with h | h <;> exact ⟨_, h⟩
  obtain ⟨a, ha⟩ := ty
  show f__law_alike_8dc4_body _ _ _ = _
  unfold f__law_alike_8dc4_body
  refine mkFn_rt rfl ?_
  simp only [mSeq, mIf, tV, mRet, mNil, mOp, mArgs, mVar, mC, List.map_cons, List.map_nil, List.cons_append, List.nil_append, show List.replicate (3 - 2) (none : Option D) = [none] from rfl, List.getElem?_cons_zero, List.getElem?_cons_succ, hd, R.bind_ok, R.of_some, R.to_ok,
    tup_2, isi_2t ht, isi_k ha (show knownT "list" = true by decide), isi_k ha (show knownT "tuple" = true by decide), ne_bl, hl, ne_f (Cmp.int _) (Cmp.int _), key, gAll_true, RS.then_nx, RS.then_rt, BEq.rfl, Bool.not_true, if_true, Bool.false_eq_true, if_false]
theorem alike3_int {n : Nat} {i : Int} {s : Sto} : f__law_alike_8dc4_r (n + 1) [.int i, .int i] s = .ok (.bl true) s := by
  show f__law_alike_8dc4_body _ _ _ = _
  unfold f__law_alike_8dc4_body
  refine mkFn_rt rfl ?_
  have e1 : gIsN s [.int i, .non] = some (.bl false) := rfl
  simp only [mSeq, mIf, tV, tOr, mAnd, mRet, mNil, mOp, mArgs, mVar, mC, List.map_cons, List.map_nil, List.cons_append, List.nil_append, show List.replicate (3 - 2) (none : Option D) = [none] from rfl, List.getElem?_cons_zero, List.getElem?_cons_succ, fz, R.bind_ok, R.of_some, R.to_ok,
    tup_2, isi_2f (x := .int i) (.inl rfl), isi_k (x := .int i) rfl (show knownT "bool" = true by decide), e1, eq_bl, eq_t (Cmp.int i) (Cmp.int i), RS.then_nx, RS.then_rt, BEq.rfl, Bool.not_true, if_true, Bool.false_eq_true, if_false]
end Zm
namespace Zm
open PySem
/-- a hall and itself -/
theorem alike_row {n : Nat} (r : List Int) (hr : r.length ≤ 1000) {s : Sto} : f__law_alike_8dc4_r (n + 2) [(eT eI).f r, (eT eI).f r] s = .ok (.bl true) s := by
  refine alike3_seq (ds := r.map D.int) ((eT eI).h r) (.inr rfl) (by simp [eT, eI]) (by simpa using hr) (fun j hj => ?_) fun e he => ?_
  · show L2.atI (r.map D.int) (j : Int) = _
    rw [atI_nat]; simp
  · obtain ⟨x, _, rfl⟩ := List.mem_map.mp he
    exact alike3_int
end Zm
set_option linter.all false
set_option autoImplicit false
set_option maxRecDepth 100000
/-! GZ: one minute moved, typed. -/
namespace Zm
open PySem Lpp Mv
section
variable {h : List (List Int)} {m i : Nat} (H : HallOK h m) (hi : i + 1 < h.length)
include H hi
end
end Zm
set_option linter.all false
set_option autoImplicit false
set_option maxRecDepth 100000
/-! GZ2: the law's own one move; worths that are as before. -/
namespace Zm
open PySem Lpp Mv
theorem lst_take {f : Nat → Int} {m k : Nat} (h : k ≤ m) : (lst f m).take k = lst f k := lst_eq (by simp; omega) fun c hc => by rw [List.getElem?_take, if_pos hc, lst_get (by omega)]
section
variable {h : List (List Int)} {m i : Nat} (H : HallOK h m) (hi : i + 1 < h.length)
include H hi
end
/-! ### worths -/
end Zm
set_option linter.all false
set_option autoImplicit false
set_option maxRecDepth 100000
/-! GZ3: there and back again; the law's due numbers. -/
namespace Zm
open PySem Lpp Mv
section
variable {h : List (List Int)} {m i : Nat} (H : HallOK h m) (hi : i + 1 < h.length)
include H hi
theorem new_self : newH h i m (ps (rf h i) m) = h := by
  obtain ⟨e, l⟩ := hall_split H hi
  have := new_is (m := m) e e (fun _ _ => rfl) fun _ _ => rfl
  rw [l] at this; exact this
end
section
variable {h : List (List Int)} {m i : Nat} (H : HallOK h m) (hi : i + 1 < h.length)
include H hi
end
end Zm
set_option linter.all false
set_option autoImplicit false
set_option maxRecDepth 100000
/-! GJ2: classes of halls; the settled hall. -/
namespace Zm
open PySem Lpp Mv
theorem rf_z {h : List (List Int)} {m : Nat} (H : HallOK h m) (r : Nat) {c : Nat} (hc : m ≤ c) : rf h r c = 0 := by
  unfold rf at2
  rw [List.getD_eq_getElem?_getD (l := h)]
  cases e : h[r]? with
  | none => simp
  | some x =>
    rw [Option.getD_some, List.getD_eq_getElem?_getD, List.getElem?_eq_none (by have := (H.row x (List.mem_of_getElem? e)).1; omega)]; rfl
theorem rf_0 {h : List (List Int)} {r : Nat} (hr : h.length ≤ r) : rf h r = fun _ => 0 := by
  funext c
  unfold rf at2
  rw [List.getD_eq_getElem?_getD (l := h), List.getElem?_eq_none hr]; simp
theorem rf_nnA {h : List (List Int)} {m : Nat} (H : HallOK h m) (r c : Nat) : 0 ≤ rf h r c := by
  by_cases hr : r < h.length
  · by_cases hc : c < m
    · exact rf_nn H hr hc
    · rw [rf_z H r (by omega)]; exact Int.le_refl _
  · rw [rf_0 (by omega)]; exact Int.le_refl _
/-- halls of one class: led to each other by moves -/
structure Cls (m : Nat) (h g : List (List Int)) : Prop where
  H : HallOK h m
  G : HallOK g m
  len : g.length = h.length
  le : Le h.length (rf h) (rf g)
  ge : Le h.length (rf g) (rf h)
  un : Un m h g
  sum : ∀ c, c < m → (g.map fun r => r.getD c 0).sum = (h.map fun r => r.getD c 0).sum
theorem Cls.refl {m : Nat} {h : List (List Int)} (H : HallOK h m) : Cls m h h := ⟨H, H, rfl, .refl, .refl, .refl, fun _ _ => rfl⟩
theorem Cls.symm {m : Nat} {h g : List (List Int)} (c : Cls m h g) : Cls m g h := ⟨c.G, c.H, c.len.symm, by rw [c.len]; exact c.ge, by rw [c.len]; exact c.le, c.un.symm, fun k hk => (c.sum k hk).symm⟩
theorem Cls.trans {m : Nat} {h g k : List (List Int)} (c : Cls m h g) (d : Cls m g k) : Cls m h k :=
  ⟨c.H, d.G, d.len.trans c.len, c.le.trans (by have := d.le; rwa [c.len] at this), Le.trans (by have := d.ge; rwa [c.len] at this) c.ge, c.un.trans d.un, fun x hx => (d.sum x hx).trans (c.sum x hx)⟩
section
variable {h : List (List Int)} {m i : Nat} (H : HallOK h m) (hi : i + 1 < h.length) {T : Int}
include H hi
variable (h1 : ps (rf h i) m + ps (rf h (i + 1)) m - gw (rf h i) (rf h (i + 1)) m ≤ T) (h2 : T ≤ gw (rf h i) (rf h (i + 1)) m)
include h1 h2
theorem new_other {r : Nat} (n1 : r ≠ i) (n2 : r ≠ i + 1) : rf (newH h i m T) r = rf h r := by
  have e := new_split H hi h1 h2
  have l := (hall_split H hi).2
  funext c
  have q : (newH h i m T)[r]? = h[r]? := by
    rw [e]
    by_cases z : r < i
    · rw [List.append_assoc, List.getElem?_append_left (by omega), List.getElem?_take, if_pos z]
    · rw [List.getElem?_append_right (by simp; omega), List.getElem?_drop]
      congr 1
      simp; omega
  unfold rf at2
  rw [List.getD_eq_getElem?_getD (l := newH h i m T), List.getD_eq_getElem?_getD (l := h), q]
theorem cls_new : Cls m h (newH h i m T) := by
  obtain ⟨n1, n2, n3, n4, n5, n6, n7⟩ := new_facts H hi h1 h2
  have hs : ∀ x, rf h i x + rf h (i + 1) x = rf (newH h i m T) i x + rf (newH h i m T) (i + 1) x := fun x => by
    by_cases hx : x < m
    · exact (n6 x hx).symm
    · rw [rf_z H i (by omega), rf_z H (i + 1) (by omega), rf_z n1 i (by omega), rf_z n1 (i + 1) (by omega)]
  refine ⟨H, n1, n2, ?_, ?_, moved_un H hi h1 h2, fun c hc => moved_sum H hi h1 h2 hc⟩
  · exact le_two hi (fun r a b => (new_other H hi h1 h2 a b).symm) hs (domX_of (fun c hc => rf_z H i hc) (fun c hc => rf_z H (i + 1) hc) (fun c hc => rf_z n1 i hc) (fun c hc => rf_z n1 (i + 1) hc) (fun c => rf_nnA H (i + 1) c) n7.1)
  · exact le_two hi (fun r a b => new_other H hi h1 h2 a b) (fun x => (hs x).symm) (domX_of (fun c hc => rf_z n1 i hc) (fun c hc => rf_z n1 (i + 1) hc) (fun c hc => rf_z H i hc) (fun c hc => rf_z H (i + 1) hc) (fun c => rf_nnA n1 (i + 1) c) n7.2)
end
/-! ### nothing to move back -/
def Nob (h : List (List Int)) (m i : Nat) : Prop := ∀ x, ps (rf h (i + 1)) m - ps (rf h (i + 1)) x ≤ ps (rf h i) m - ps (rf h i) (x + 1)
section
variable {h : List (List Int)} {m i : Nat} (H : HallOK h m) (hi : i + 1 < h.length)
include H hi
/-- all moved back -/
def upH (h : List (List Int)) (i m : Nat) : List (List Int) := newH h i m (gw (rf h i) (rf h (i + 1)) m)
end
section
variable {h : List (List Int)} {m i : Nat} (H : HallOK h m)
include H
end
end Zm
set_option linter.all false
set_option autoImplicit false
set_option maxRecDepth 100000
/-! GJ3: steps to the first, led: typed. -/
namespace Zm
open PySem Lpp Mv
end Zm
set_option linter.all false
set_option autoImplicit false
set_option maxRecDepth 100000
/-! GB2: greatest worths from the last cell back, as the law goes. -/
namespace Zm
open PySem Lpp
/-- what the law's own dict holds after so many rows, and cells of the next one -/
structure WTo (w : Nat → Nat → Int) (n e t g : Nat) (d : List ((Int × Int) × Int)) : Prop where
  len : d.length = t * (e + 1) + g
  look : ∀ c k : Nat, dlook d ((c : Int), (k : Int)) = if (n ≤ c + t ∧ c < n ∧ k ≤ e) ∨ (c + t + 1 = n ∧ e < k + g ∧ k ≤ e) then some (tw w c k (n - 1) e) else none
section
variable {h : List (List Int)} {m : Nat} (H : HallOK h m)
include H
end
end Zm
set_option linter.all false
set_option autoImplicit false
set_option maxRecDepth 100000
/-! GLR: leavings by counters and customers. -/
namespace Zm
open PySem Lpp
end Zm
set_option linter.all false
set_option autoImplicit false
set_option maxRecDepth 100000
/-! GQ: all greatest worths, minutes to spare, minutes more at a cell. -/
namespace Lpp
section
variable {w v : Nat → Nat → Int} {i k j l c q : Nat} {W : Int}
theorem Way.congr (h : Way w i k j l W) : (∀ a b, a ≤ j → b ≤ l → w a b = v a b) → Way v i k j l W := by
  induction h with
  | one => intro e; rw [e _ _ (Nat.le_refl _) (Nat.le_refl _)]; exact .one _ _
  | @down j l W h ih => intro e; rw [e _ _ (Nat.le_refl _) (Nat.le_refl _)]; exact .down (ih fun a b ha hb => e a b (by omega) hb)
  | @right j l W h ih => intro e; rw [e _ _ (Nat.le_refl _) (Nat.le_refl _)]; exact .right (ih fun a b ha hb => e a b ha (by omega))
/-- so many minutes more at a cell -/
def mo (w : Nat → Nat → Int) (c q : Nat) (b : Int) : Nat → Nat → Int := fun x y => if x = c ∧ y = q then w x y + b else w x y
theorem Way.more {b : Int} (h : Way (mo w c q b) i k j l W) : Way w i k j l W ∨ ∃ U V, Way w i k c q U ∧ Way w c q j l V ∧ W = U + V - w c q + b := by
  induction h with
  | one =>
    by_cases e : i = c ∧ k = q
    · obtain ⟨rfl, rfl⟩ := e
      right; exact ⟨_, _, .one _ _, .one _ _, by simp [mo]⟩
    · left; rw [show mo w c q b i k = w i k by simp [mo, e]]; exact .one _ _
  | @down j l W _ ih =>
    rcases ih with h | ⟨U, V, h1, h2, rfl⟩
    · by_cases e : j + 1 = c ∧ l = q
      · obtain ⟨rfl, rfl⟩ := e
        right; exact ⟨_, _, .down h, .one _ _, by simp [mo]; omega⟩
      · left; rw [show mo w c q b (j + 1) l = w (j + 1) l by simp only [mo, if_neg e]]; exact .down h
    · right
      have := h2.le
      rw [show mo w c q b (j + 1) l = w (j + 1) l by simp only [mo]; rw [if_neg (by omega)]]
      exact ⟨U, _, h1, .down h2, by omega⟩
  | @right j l W _ ih =>
    rcases ih with h | ⟨U, V, h1, h2, rfl⟩
    · by_cases e : j = c ∧ l + 1 = q
      · obtain ⟨rfl, rfl⟩ := e
        right; exact ⟨_, _, .right h, .one _ _, by simp [mo]; omega⟩
      · left; rw [show mo w c q b j (l + 1) = w j (l + 1) by simp only [mo, if_neg e]]; exact .right h
    · right
      have := h2.le
      rw [show mo w c q b j (l + 1) = w j (l + 1) by simp only [mo]; rw [if_neg (by omega)]]
      exact ⟨U, _, h1, .right h2, by omega⟩
end
end Lpp
namespace Zm
open PySem Lpp
section
variable {h : List (List Int)} {m : Nat} (H : HallOK h m)
include H
end
end Zm
set_option linter.all false
set_option autoImplicit false
set_option maxRecDepth 100000
/-! GJ4: halls behind one another. -/
namespace Zm
open PySem Lpp Mv
section
variable {h : List (List Int)} {m i : Nat} (H : HallOK h m) (hi : i + 1 < h.length) {T : Int}
include H hi
theorem rf_in {P Q : List (List Int)} (X : HallOK (P ++ h ++ Q) m) {r : Nat} (hr : r < h.length) : rf (P ++ h ++ Q) (P.length + r) = rf h r := by
  funext c
  unfold rf at2
  rw [List.getD_eq_getElem?_getD (l := P ++ h ++ Q), List.getD_eq_getElem?_getD (l := h)]
  rw [List.append_assoc, List.getElem?_append_right (by omega), List.getElem?_append_left (by omega), show P.length + r - P.length = r by omega]
variable (h1 : ps (rf h i) m + ps (rf h (i + 1)) m - gw (rf h i) (rf h (i + 1)) m ≤ T) (h2 : T ≤ gw (rf h i) (rf h (i + 1)) m)
include h1 h2
/-- a move in a part is a move in the whole -/
theorem new_in {P Q : List (List Int)} (X : HallOK (P ++ h ++ Q) m) : newH (P ++ h ++ Q) (P.length + i) m T = P ++ newH h i m T ++ Q := by
  obtain ⟨r0, r1, r2, r3, r4⟩ := rec2_ok H hi h1 h2
  have e := (hall_split H hi).1
  have l := (hall_split H hi).2
  have e2 := new_split H hi h1 h2
  have hx : P ++ h ++ Q = (P ++ h.take i) ++ [lst (rf h i) m, lst (rf h (i + 1)) m] ++ (h.drop (i + 2) ++ Q) := by
    conv => lhs; rw [e]
    simp
  have hy : P ++ newH h i m T ++ Q = (P ++ h.take i) ++ [lst (fa (rec2 h i m T)) m, lst (fb (rec2 h i m T)) m] ++ (h.drop (i + 2) ++ Q) := by
    rw [e2]; simp
  have := new_is hx hy (fun c hc => r3 c hc) fun c hc => (r1 c hc).2.2
  rw [r2, List.length_append, l] at this
  exact this
theorem cls_in {P Q : List (List Int)} (X : HallOK (P ++ h ++ Q) m) : Cls m (P ++ h ++ Q) (P ++ newH h i m T ++ Q) := by
  have a := rf_in H hi X (r := i) (by omega)
  have b := rf_in H hi X (r := i + 1) (by omega)
  rw [← new_in H hi h1 h2 X]
  refine cls_new X (by simp; omega) ?_ ?_
  · rw [a, Nat.add_assoc, b]; exact h1
  · rw [a, Nat.add_assoc, b]; exact h2
end
/-- led to each other, wherever they stand -/
structure Ctx (m : Nat) (h g : List (List Int)) : Prop where
  H : HallOK h m
  G : HallOK g m
  len : g.length = h.length
  cls : ∀ P Q, HallOK (P ++ h ++ Q) m → Cls m (P ++ h ++ Q) (P ++ g ++ Q)
theorem Ctx.refl {m : Nat} {h : List (List Int)} (H : HallOK h m) : Ctx m h h := ⟨H, H, rfl, fun P Q X => .refl X⟩
theorem Ctx.trans {m : Nat} {h g k : List (List Int)} (c : Ctx m h g) (d : Ctx m g k) : Ctx m h k := ⟨c.H, d.G, d.len.trans c.len, fun P Q X => (c.cls P Q X).trans (d.cls P Q (c.cls P Q X).G)⟩
theorem Ctx.one {m : Nat} {h g : List (List Int)} (c : Ctx m h g) : Cls m h g := by
  have := c.cls [] [] (by simpa using c.H)
  simpa using this
theorem ctx_new {h : List (List Int)} {m i : Nat} (H : HallOK h m) (hi : i + 1 < h.length) {T : Int} (h1 : ps (rf h i) m + ps (rf h (i + 1)) m - gw (rf h i) (rf h (i + 1)) m ≤ T) (h2 : T ≤ gw (rf h i) (rf h (i + 1)) m) : Ctx m h (newH h i m T) :=
  ⟨H, (new_facts H hi h1 h2).1, (new_facts H hi h1 h2).2.1, fun P Q X => cls_in H hi h1 h2 X⟩
/-! ### ways through both -/
end Zm
set_option linter.all false
set_option autoImplicit false
set_option maxRecDepth 100000
/-! GJ7: three counters, exchanged one way and the other. -/
namespace Mv
/-- how much goes back, by the three steps one way (a b c) and the other (p q r) -/
structure St (a b c p q r : Int) : Prop where
  e1 : p = max c (b - a)
  e2 : q = a + c
  e3 : p + r = b
  n1 : 0 ≤ a
  n3 : 0 ≤ c
  n4 : 0 ≤ p
  n6 : 0 ≤ r
theorem St.m1 {a b c p q r : Int} (h : St a b c p q r) : (p = c ∧ b - a ≤ c) ∨ (p = b - a ∧ c ≤ b - a) := by have := h.e1; omega
end Mv
set_option linter.all false
set_option autoImplicit false
set_option maxRecDepth 100000
/-! GJ8: counters exchanged: three, and in a greater hall. -/
namespace Zm
open PySem Lpp Mv
section
variable {h : List (List Int)} {m i : Nat} (H : HallOK h m)
include H
end
section
variable {h : List (List Int)} {m i : Nat} (H : HallOK h m) (hi : i + 1 < h.length)
include H hi
end
/-! ### three counters -/
/-- the way to the settled hall, and the two strings -/
structure Three (h : List (List Int)) (m : Nat) (u : List (List Int)) (a b c p q r : Int) : Prop where
  H : HallOK h m
  l3 : h.length = 3
  cu : Cls m h u
  st : St a b c p q r
  ea : offX h 0 m = a
  eb : offX (upH h 0 m) 1 m = b
  ec : offX (upH (upH h 0 m) 1 m) 0 m = c
  eu : upH (upH (upH h 0 m) 1 m) 0 m = u
  ep : offX h 1 m = p
  eq : offX (upH h 1 m) 0 m = q
  er : offX (upH (upH h 1 m) 0 m) 1 m = r
  ev : upH (upH (upH h 1 m) 0 m) 1 m = u
  su : ∀ i, i + 1 < 3 → Nob u m i
/-! ### in a greater hall -/
end Zm
set_option linter.all false
set_option autoImplicit false
set_option maxRecDepth 100000
/-! GE: draws of the fourth kind. -/
namespace Zm
open PySem
end Zm
set_option linter.all false
set_option autoImplicit false
set_option maxRecDepth 100000
/-! AL3: alike, of the fourth kind: a thing and itself. -/
namespace Zm
open PySem
end Zm
set_option linter.all false
set_option autoImplicit false
set_option maxRecDepth 100000
/-! GJ9: sums asked for, worths told in lists, halls of the fourth kind of draws. -/
namespace Zm
open PySem Lpp Mv
/-! ### worths, in lists -/
theorem lst_congr {F G : Nat → Int} {m : Nat} (h : ∀ c, c < m → F c = G c) : lst F m = lst G m := lst_eq lst_len fun c hc => by rw [lst_get hc, h c hc]
section
variable {h : List (List Int)} {m i : Nat} (H : HallOK h m) (hi : i + 1 < h.length)
include H hi
end
end Zm
set_option linter.all false
set_option autoImplicit false
set_option maxRecDepth 100000
/-! GZ4: many moves, one by one. -/
namespace Zm
open PySem Lpp Mv
section
variable {h : List (List Int)} {m i : Nat} (H : HallOK h m) (hi : i + 1 < h.length)
include H hi
end
end Zm
set_option linter.all false
set_option autoImplicit false
set_option maxRecDepth 100000
/-! GJ12: moves of counters and of customers go past one another. -/
namespace Mv
end Mv
namespace Zm
open PySem Lpp Mv
/-! ### turned about -/
end Zm
set_option linter.all false
set_option autoImplicit false
set_option maxRecDepth 100000
/-! GJ13: moves of counters and of customers, of all kinds, and sums exchanged. -/
namespace Zm
open PySem Lpp Mv
/-! ### so many -/
end Zm
set_option linter.all false
set_option autoImplicit false
set_option maxRecDepth 100000
/-! GJ14: the laws' own moves by leads told as sums; customers' moves, typed. -/
namespace Zm
open PySem Lpp Mv
/-! ### the law's own moves -/
theorem set2_ok {τ ρ : Type} {xs : List (List Int)} {j k : Nat} {ys : List Int} {y : Int} {q : List (List Int) → B τ ρ} {s : Sto} (h : xs[j]? = some ys) (hk : k < ys.length) : set2B xs (j : Int) (k : Int) y q s = q (xs.set j (ys.set k y)) s := by
  have hj := (List.getElem?_eq_some_iff.mp h).1
  have e1 : L2.ixN xs.length (j : Int) = some j := by unfold L2.ixN; rw [if_pos (by omega), if_pos (by omega)]; rfl
  have e3 : L2.ixN ys.length (k : Int) = some k := by unfold L2.ixN; rw [if_pos (by omega), if_pos (by omega)]; rfl
  unfold set2B
  rw [e1]; simp only [h, e3]
section
variable {h : List (List Int)} {m i : Nat} (H : HallOK h m) (hi : i + 1 < h.length)
include H hi
end
/-! ### customers -/
section
variable {h : List (List Int)} {m : Nat} (H : HallOK h m)
include H
end
end Zm
set_option linter.all false
set_option autoImplicit false
set_option maxRecDepth 100000
/-! GSH: shapes, covered, towers: typed. -/
namespace Zm
open PySem Lpp Mv
def moX (a b c : Nat → Int) (x : Int) : Nat → Int
  | 0 => x
  | p + 1 => min (b p) (c p) - a p
theorem nsf_mo (a b c : Nat → Int) (x : Int) (p : Nat) : nsf a b c x p = max (b p) (c p) + moX a b c x p := by cases p <;> rfl
theorem zipG {α β : Type} {xs : List α} {ys : List β} {i : Nat} {x : α} {y : β} (h : xs[i]? = some x) (h' : ys[i]? = some y) : (xs.zip ys)[i]? = some (x, y) := by
  rw [List.getElem?_zip_eq_some]; exact ⟨h, h'⟩
theorem next_shape_T {a b c : Nat → Int} {S : Nat} {x : Int} (hS : S ≤ 1000) (s : Sto) : g_next_shape (lst a S) (lst b S) (lst c S) x s = .ok (lst (nsf a b c x) S) s := by
  have key : Ps (g_next_shape (lst a S) (lst b S) (lst c S) x) (fun r => r = lst (nsf a b c x) S) := by
    unfold g_next_shape
    have zl : (enumT 0 ((lst b S).zip (lst c S))).length = S := by rw [enumT_len]; simp
    refine ps_fn (pb_lt (pb_lt (pb_sq (P1 := fun v : List Int × Int => v.1 = lst (nsf a b c x) S) ?_ fun v hv => pb_rt hv)))
    refine pb_for (fun p v => v.1 = lst (nsf a b c x) p ∧ v.2 = moX a b c x p) ⟨rfl, rfl⟩ (fun p hp v ⟨h1, h2⟩ => ?_) fun v hv => by rw [zl] at hv; exact hv.1
    rw [zl] at hp
    have ek : (enumT 0 ((lst b S).zip (lst c S)))[p]'(by rw [zl]; exact hp) = ((p : Int), (b p, c p)) := by
      have e1 := enumT_get ((lst b S).zip (lst c S)) 0 p
      rw [List.getElem?_eq_getElem (by rw [zl]; exact hp), zipG (lst_get (f := b) hp) (lst_get (f := c) hp)] at e1
      simp only [Option.map_some, Option.some.injEq] at e1
      rw [e1]; simp
    rw [ek]
    refine pb_ap (by rw [h1]; simp; omega) (pb_ebE (x := min (b p) (c p) - a p) (fun s => by rw [bd_ok (ix_get (lst_get hp))]; rfl) (pb_nx ⟨?_, rfl⟩))
    rw [h1, h2, ← lst_snoc, nsf_mo]
  exact key.one (fun y hy => hy) s
/-- shapes: counter by counter, customer by customer -/
def shL (w : Nat → Nat → Int) (S i m : Nat) : List (List Int) := (List.range (m + 1)).map fun k => lst (shp w i k) S
def shLL (w : Nat → Nat → Int) (S n m : Nat) : List (List (List Int)) := (List.range (n + 1)).map fun i => shL w S i m
theorem shL_len {w : Nat → Nat → Int} {S i m : Nat} : (shL w S i m).length = m + 1 := by simp [shL]
theorem shL_get {w : Nat → Nat → Int} {S i m k : Nat} (h : k ≤ m) : (shL w S i m)[k]? = some (lst (shp w i k) S) := by simp [shL, show k < m + 1 by omega]
theorem shLL_len {w : Nat → Nat → Int} {S n m : Nat} : (shLL w S n m).length = n + 1 := by simp [shLL]
theorem shLL_get {w : Nat → Nat → Int} {S n m i : Nat} (h : i ≤ n) : (shLL w S n m)[i]? = some (shL w S i m) := by simp [shLL, show i < n + 1 by omega]
theorem rep0 (S : Nat) : List.replicate S (0 : Int) = lst (fun _ => 0) S := lst_eq (by simp) fun c hc => by simp [hc]
theorem shapes_T {h : List (List Int)} {m : Nat} (H : HallOK h m) (s : Sto) : g_shapes h s = .ok (shLL (rf h) (min h.length m + 1) h.length m) s := by
  have l8 := H.l8; have m8 := H.m8; have l1 := H.l1; have m1 := H.m1
  obtain ⟨S, hS⟩ : ∃ S, S = min h.length m + 1 := ⟨_, rfl⟩
  rw [← hS]
  have key : Ps (g_shapes h) (fun r => r = shLL (rf h) S h.length m) := by
    unfold g_shapes
    refine ps_fn (pb_ebE (x := (S : Int)) (fun s => ?_) (pb_ebE (x := shLL (rf h) S 0 m) (fun s => ?_) (pb_sq (P1 := fun r => r = shLL (rf h) S h.length m) ?_ fun v hv => pb_rt hv)))
    · rw [bd_ok (a := min (h.length : Int) (m : Int)) (s' := s) (by rw [bd_ok (many_T H s)]; rfl)]
      show R.ok _ s = _
      congr 1; omega
    · rw [bd_ok (a := shL (rf h) S 0 m) (s' := s)]
      · show R.ok _ s = _
        congr 1
      · rw [bd_ok (a := irg (m + 1)) (s' := s)]
        · rw [mapG_ok (g := fun _ => List.replicate S 0) (by simp; omega) fun x _ => rep_ok (by omega)]
          congr 1
          unfold shL irg
          rw [List.map_map]
          refine List.map_congr_left fun k _ => ?_
          show List.replicate S 0 = _
          rw [shp_0, rep0]
        · rw [bd_ok (a := (m : Int) + 1) (s' := s) (by rw [bd_ok (many_T H s)]; rfl), show ((m : Int) + 1) = ((m + 1 : Nat) : Int) by omega]
          exact range_ok (by omega)
    · refine pb_for (fun i v => v = shLL (rf h) S i m) rfl (fun i hi v hv => ?_) fun v hv => hv
      subst hv
      have rl : h[i].length = m := (H.row _ (List.getElem_mem hi)).1
      refine pb_ebE (x := [lst (fun _ => 0) S]) (fun s => by rw [bd_ok (rep_ok (by omega)), rep0]; rfl) (pb_sq (P1 := fun r => r = shL (rf h) S (i + 1) m) ?_ fun r hr => ?_)
      · refine pb_for (fun k r => r = shL (rf h) S (i + 1) k) (by unfold shL; simp) (fun k hk r hr => ?_) fun r hr => by rw [enumT_len, rl] at hr; exact hr
        rw [enumT_len, rl] at hk
        subst hr
        have ek : (enumT 0 h[i])[k]'(by rw [enumT_len, rl]; exact hk) = ((k : Int), rf h i k) := by
          have e1 := enumT_get h[i] 0 k
          rw [List.getElem?_eq_getElem (by rw [enumT_len, rl]; exact hk), List.getElem?_eq_getElem (by omega)] at e1
          have e2 : rf h i k = h[i][k]'(by omega) := by
            unfold rf at2; rw [List.getD_eq_getElem?_getD (l := h), List.getElem?_eq_getElem hi, Option.getD_some, List.getD_eq_getElem?_getD, List.getElem?_eq_getElem (by omega)]; rfl
          simp only [Option.map_some, Option.some.injEq] at e1
          rw [e1, e2]; simp
        rw [ek]
        have la : ∀ s, ixT (shLL (rf h) S i m) (-(1 : Int)) s = .ok (shL (rf h) S i m) s := fun s => ix_last (by rw [List.getLast?_eq_getElem?, shLL_len]; exact shLL_get (Nat.le_refl _))
        unfold par2B
        refine pb_ebE la (pb_ebE (fun s => ix_get (shL_get (by omega))) (pb_ebE la (pb_ebE (x := lst (shp (rf h) i (k + 1)) S) (fun s => ?_) ?_)))
        · exact ix_int (i := k + 1) (by omega) (shL_get (by omega))
        · refine pb_ebE (x := lst (shp (rf h) (i + 1) (k + 1)) S) (fun s => ?_) (pb_ap (by rw [shL_len]; omega) (pb_nx ?_))
          · rw [bd_ok (a := lst (shp (rf h) (i + 1) k) S) (s' := s) (ix_last (by rw [List.getLast?_eq_getElem?, shL_len]; exact shL_get (Nat.le_refl _))), next_shape_T (by omega), shp_s]
          · unfold shL
            rw [List.range_succ (n := k + 1), List.map_append]; rfl
      · subst hr
        refine pb_ap (by rw [shLL_len]; omega) (pb_nx ?_)
        unfold shLL
        rw [List.range_succ (n := i + 1), List.map_append]; rfl
  exact key.one (fun y hy => hy) s
section
variable {h : List (List Int)} {m : Nat} (H : HallOK h m)
include H
/-- the towers -/
def twC (w : Nat → Nat → Int) (n m : Nat) : List (List Int) := (List.range m).map fun k => lst (shp w n (k + 1)) (min (k + 1) n)
def twR (w : Nat → Nat → Int) (n m : Nat) : List (List Int) := (List.range n).map fun i => lst (shp w (i + 1) m) (min (i + 1) m)
omit H in
theorem twC_len {w : Nat → Nat → Int} {n m : Nat} : (twC w n m).length = m := by simp [twC]
omit H in
theorem twR_len {w : Nat → Nat → Int} {n m : Nat} : (twR w n m).length = n := by simp [twR]
omit H in
theorem twC_get {w : Nat → Nat → Int} {n m k : Nat} (hk : k < m) : (twC w n m)[k]? = some (lst (shp w n (k + 1)) (min (k + 1) n)) := by simp [twC, hk]
omit H in
theorem twR_get {w : Nat → Nat → Int} {n m i : Nat} (hi : i < n) : (twR w n m)[i]? = some (lst (shp w (i + 1) m) (min (i + 1) m)) := by simp [twR, hi]
omit H in
theorem trimmed_T {r : List Int} {k : Nat} (s : Sto) : g_trimmed r (k : Int) s = .ok (r.take k) s := by
  unfold g_trimmed
  rw [cut_to]; rfl
theorem towers_of_T (s : Sto) : g_towers_of h s = .ok (twC (rf h) h.length m, twR (rf h) h.length m) s := by
  have l8 := H.l8; have m8 := H.m8; have l1 := H.l1; have m1 := H.m1
  unfold g_towers_of
  refine fnT_rt ?_
  have c1 : ∀ {α : Type} (xs : List α), cutD xs (some (1 : Int)) none = xs.drop 1 := fun xs => cut_from xs 1
  rw [eb_ok (shapes_T H s), eb_ok (x := twC (rf h) h.length m) (s' := s), eb_ok (x := twR (rf h) h.length m) (s' := s)]
  · rfl
  · rw [c1, mapG_ok (g := fun x : Int × List (List Int) => (x.2[m]?.getD []).take (min (x.1.toNat + 1) m)) (by rw [enumT_len]; simp [shLL_len]; omega) fun x hx => ?_]
    · congr 1
      apply List.ext_getElem?
      intro i
      by_cases hi : i < h.length
      · rw [List.getElem?_map, enumT_get, List.getElem?_drop, shLL_get (by omega), twR_get hi]
        simp only [Option.map_some, Option.some.injEq]
        rw [shL_get (Nat.le_refl m), Option.getD_some, lst_take (by omega)]
        congr 1
        · rw [show 1 + i = i + 1 by omega]
        · simp
      · rw [List.getElem?_eq_none (by simp [shLL_len]; omega), List.getElem?_eq_none (by rw [twR_len]; omega)]
    · obtain ⟨i, hi, rfl⟩ := List.getElem_of_mem hx
      rw [enumT_len, List.length_drop, shLL_len] at hi
      have e1 := enumT_get ((shLL (rf h) (min h.length m + 1) h.length m).drop 1) 0 i
      rw [List.getElem?_eq_getElem (by rw [enumT_len, List.length_drop, shLL_len]; exact hi), List.getElem?_drop, shLL_get (by omega)] at e1
      simp only [Option.map_some, Option.some.injEq] at e1
      rw [e1]
      dsimp only
      rw [bd_ok (a := lst (shp (rf h) (1 + i) m) (min h.length m + 1)) (s' := s) (ix_last (by rw [List.getLast?_eq_getElem?, shL_len]; exact shL_get (Nat.le_refl _))), bd_ok (a := ((min (i + 1) m : Nat) : Int)) (s' := s)]
      · rw [trimmed_T, shL_get (Nat.le_refl m)]
        simp
      · rw [bd_ok (many_T H s)]
        show R.ok _ s = _
        congr 1; omega
  · rw [bd_ok (a := enumT 0 ((shL (rf h) (min h.length m + 1) h.length m).drop 1)) (s' := s)]
    · rw [mapG_ok (g := fun x : Int × List Int => x.2.take (min (x.1.toNat + 1) h.length)) (by rw [enumT_len]; simp [shL_len]; omega) fun x hx => ?_]
      · congr 1
        apply List.ext_getElem?
        intro k
        by_cases hk : k < m
        · rw [List.getElem?_map, enumT_get, List.getElem?_drop, shL_get (by omega), twC_get hk]
          simp only [Option.map_some, Option.some.injEq]
          rw [lst_take (by omega)]
          congr 1
          · rw [show 1 + k = k + 1 by omega]
          · simp
        · rw [List.getElem?_eq_none (by simp [shL_len]; omega), List.getElem?_eq_none (by rw [twC_len]; omega)]
      · obtain ⟨k, hk, rfl⟩ := List.getElem_of_mem hx
        rw [enumT_len, List.length_drop, shL_len] at hk
        have e1 := enumT_get ((shL (rf h) (min h.length m + 1) h.length m).drop 1) 0 k
        rw [List.getElem?_eq_getElem (by rw [enumT_len, List.length_drop, shL_len]; exact hk), List.getElem?_drop, shL_get (by omega)] at e1
        simp only [Option.map_some, Option.some.injEq] at e1
        rw [e1]
        dsimp only
        rw [show min (((0 + k : Nat) : Int) + 1) (h.length : Int) = ((min (k + 1) h.length : Nat) : Int) by omega, trimmed_T]
        simp
    · rw [bd_ok (a := (shL (rf h) (min h.length m + 1) h.length m).drop 1) (s' := s)]
      · rfl
      · rw [bd_ok (a := shL (rf h) (min h.length m + 1) h.length m) (s' := s) (ix_last (by rw [List.getLast?_eq_getElem?, shLL_len]; exact shLL_get (Nat.le_refl _)))]
        rw [c1]; rfl
end
end Zm
set_option linter.all false
set_option autoImplicit false
set_option maxRecDepth 100000
/-! GK: halls with room for only so many. -/
namespace Zm
open PySem Lpp
/-- when customer k leaves counter i, room for r -/
def bl (w : Nat → Nat → Int) (n : Nat) (t : Nat → Int) (r : Nat) (k i : Nat) : Int :=
  let come := if hi : i = 0 then t k else bl w n t r k (i - 1)
  let free := if hk : k = 0 then 0 else bl w n t r (k - 1) i
  let left := max come free + w i k
  if h : i + 1 < n ∧ r + 1 ≤ k then max left (bl w n t r (k - r - 1) (i + 1)) else left
termination_by (k, i)
decreasing_by
  · exact Prod.Lex.right _ (by omega)
  · exact Prod.Lex.left _ _ (by omega)
  · exact Prod.Lex.left _ _ (by omega)
section
variable {w : Nat → Nat → Int} {n : Nat} {t t' : Nat → Int} {r : Nat}
end
theorem app2_ok {τ ρ : Type} {xs : List (List Int)} {i : Nat} {ys : List Int} {x : Int} {t : G Int} {q : List (List Int) → B τ ρ} {s : Sto} (h : xs[i]? = some ys) (ht : t s = .ok x s) (hl : ys.length < 1000000) : app2B xs (i : Int) t q s = q (xs.set i (ys ++ [x])) s := by
  have hi := (List.getElem?_eq_some_iff.mp h).1
  have e1 : L2.ixN xs.length (i : Int) = some i := by
    unfold L2.ixN
    rw [if_pos (by omega)]
    simp; omega
  unfold app2B
  rw [e1]
  simp only [h]
  rw [eb_ok ht, if_pos (Nat.lt_of_lt_of_le hl szM)]
section
variable {h : List (List Int)} {t : List Int} {m : Nat} (H : HallOK h m) (Ht : DayOK t m)
include H Ht
end
end Zm
set_option linter.all false
set_option autoImplicit false
set_option maxRecDepth 100000
/-! GJ10: all gathered at one end. -/
namespace Zm
open PySem Lpp Mv
/-- led by moves, one after the other -/
inductive Chn (m : Nat) (h : List (List Int)) : List (List Int) → Prop
  | refl : HallOK h m → Chn m h h
  | step {g : List (List Int)} {i : Nat} {T : Int} : Chn m h g → i + 1 < g.length → ps (rf g i) m + ps (rf g (i + 1)) m - gw (rf g i) (rf g (i + 1)) m ≤ T → T ≤ gw (rf g i) (rf g (i + 1)) m → Chn m h (newH g i m T)
theorem Chn.ctx {m : Nat} {h g : List (List Int)} (c : Chn m h g) : Ctx m h g := by
  induction c with
  | refl H => exact .refl H
  | step c hi h1 h2 ih => exact ih.trans (ctx_new ih.G hi h1 h2)
/-- a loop that has less to do at every turn -/
theorem pb_whileM {τ ρ : Type} {c : τ → G Bool} {f : τ → B τ ρ} {P : τ → Prop} {Q : ρ → Prop} (I : τ → Prop) (μ : τ → Nat) (st : ∀ v, I v → ((∀ s, c v s = .ok true s) ∧ PsB (f v) (fun v' => I v' ∧ μ v' < μ v) Q) ∨ ((∀ s, c v s = .ok false s) ∧ P v)) :
    ∀ (N : Nat) (v : τ), I v → μ v < N → PsB (whileT c f N v) P Q
  | 0, v, _, h => by omega
  | N + 1, v, hv, h => fun s => by
    rcases st v hv with ⟨a, b⟩ | ⟨a, b⟩
    · unfold whileT
      rw [a s]
      simp only [if_true]
      rcases b s with ⟨v', e, i', l⟩ | ⟨r, e, q⟩
      · simp only [e]
        exact pb_whileM I μ st N v' i' (by omega) s
      · simp only [e]
        exact .inr ⟨r, rfl, q⟩
    · unfold whileT
      rw [a s]
      exact .inl ⟨v, by simp, b⟩
end Zm
set_option Elab.async false
set_option linter.all false
set_option maxRecDepth 100000
set_option autoImplicit false
/-! XT31: a number put into a told list that is not looked at any more. -/
namespace Zm
open PySem
section
variable {α β τ ρ : Type} {π : List Pt} {π' : τ → List Pt} {rest : MS} {kr : Kd} {e : Ec α} {eb : Ec β} {er : Ec ρ}
def apJ0 {α β τ ρ : Type} (e : Ec α) (v : List α × β) (z : Int) (q : D × β → B τ ρ) : B τ ρ := fun s => if v.1.length < sizeLine then q (.lst false (v.1.map e.f ++ [.int z]), v.2) s else .bad
def apJ1 {α β τ ρ : Type} (e : Ec β) (v : α × List β) (z : Int) (q : α × D → B τ ρ) : B τ ρ := fun s => if v.2.length < sizeLine then q (v.1, .lst false (v.2.map e.f ++ [.int z])) s else .bad
theorem own_lst {d : D} {xs : List α} (h : Zm.fz d = (eL e).f xs) (o : noF d = true) : ∃ ds, d = .lst true ds ∧ fzs ds = xs.map e.f ∧ noFs ds = true := Rp.lstO (e := e) ⟨h, o⟩
theorem ts_apJ0 {v : List α × β} {z : Int} {q : D × β → B τ ρ} (i : Nat) (n : ∀ y, TS (π.set i (.vr .own (eP eX eb) y)) rest π' kr er (q y)) (hx : π[i]? = some (.vr .own (eP (eL e) eb) v) := by rfl) :
    TS π (mSeq (mApT i (mC (.int 0)) (mC (.int z))) rest) π' kr er (apJ0 e v z q) := fun σ s M => by
  obtain ⟨d0, e0, r0⟩ := M.get hx
  obtain ⟨x, y, rfl, h1, h2⟩ := Rp.pair r0
  have o : noF x = true ∧ noF y = true := by
    have := r0.2
    simpa using this
  obtain ⟨ds, rfl, q1, q2⟩ := own_lst (e := e) h1 o.1
  have hl := rp_len q1
  have ix : L2.ixN 2 (0 : Int) = some 0 := by decide
  simp only [mSeq, mApT, e0, mC, R.to_ok, List.length_cons, List.length_nil, ix, List.getElem?_cons_zero, updT, uApp, apJ0, hl]
  rw [if_pos (show plains [.int z] = true by rfl)]
  by_cases zs : v.1.length < sizeLine
  · simp only [if_pos zs, RS.then_nx]
    refine n _ _ s (M.set i ⟨_, rfl, ?_, ?_⟩)
    · show D.tup [.lst false (fzs (ds ++ [.int z])), Zm.fz y] = .tup [Zm.fz (.lst false (v.1.map e.f ++ [.int z])), eb.f v.2]
      rw [h2]
      simp [fzs_eq, List.map_append]
      have : ds.map Zm.fz = v.1.map e.f := by rw [← fzs_eq]; exact q1
      rw [this]
      congr 1
      funext a
      exact (e.h a).symm
    · simp [noFs_iff] at q2 ⊢
      refine ⟨fun x hx => ?_, o.2⟩
      rcases hx with hx | rfl
      · exact q2 x hx
      · rfl
  · simp only [if_neg zs]
    trivial
theorem ts_apJ1 {v : α × List β} {z : Int} {q : α × D → B τ ρ} (i : Nat) (n : ∀ y, TS (π.set i (.vr .own (eP e eX) y)) rest π' kr er (q y)) (hx : π[i]? = some (.vr .own (eP e (eL eb)) v) := by rfl) :
    TS π (mSeq (mApT i (mC (.int 1)) (mC (.int z))) rest) π' kr er (apJ1 eb v z q) := fun σ s M => by
  obtain ⟨d0, e0, r0⟩ := M.get hx
  obtain ⟨x, y, rfl, h1, h2⟩ := Rp.pair r0
  have o : noF x = true ∧ noF y = true := by
    have := r0.2
    simpa using this
  obtain ⟨ds, rfl, q1, q2⟩ := own_lst (e := eb) h2 o.2
  have hl := rp_len q1
  have ix : L2.ixN 2 (1 : Int) = some 1 := by decide
  simp only [mSeq, mApT, e0, mC, R.to_ok, List.length_cons, List.length_nil, ix, List.getElem?_cons_zero, List.getElem?_cons_succ, updT, uApp, apJ1, hl]
  rw [if_pos (show plains [.int z] = true by rfl)]
  by_cases zs : v.2.length < sizeLine
  · simp only [if_pos zs, RS.then_nx]
    refine n _ _ s (M.set i ⟨_, rfl, ?_, ?_⟩)
    · show D.tup [Zm.fz x, .lst false (fzs (ds ++ [.int z]))] = .tup [e.f v.1, Zm.fz (.lst false (v.2.map eb.f ++ [.int z]))]
      rw [h1]
      simp [fzs_eq, List.map_append]
      have : ds.map Zm.fz = v.2.map eb.f := by rw [← fzs_eq]; exact q1
      rw [this]
      congr 1
      funext a
      exact (eb.h a).symm
    · simp [noFs_iff] at q2 ⊢
      refine ⟨o.1, fun x hx => ?_⟩
      rcases hx with hx | rfl
      · exact q2 x hx
      · rfl
  · simp only [if_neg zs]
    trivial
theorem ts_unpO2 {m : M} {ea : Ec β} {t : G (α × β)} {q : α × β → B τ ρ} (i j : Nat) (h : TE π m .own (eP e ea) t) (n : ∀ x, TS ((π.set i (.vr .own e x.1)).set j (.vr .own ea x.2)) rest π' kr er (q x)) (hi : Nat.blt i π.length = true := by rfl) (hj : Nat.blt j π.length = true := by rfl) : TS π (mSeq (mUnpO2 i j m) rest) π' kr er (Zm.eb t q) := fun σ s M => by
  have h1 := h σ s M
  have hl := M.len
  unfold Zm.eb
  cases z : t s with
  | bad => trivial
  | ex x s1 => rw [z] at h1; have h1 : m σ s = .ex x s1 := h1; simp only [mSeq, mUnpO2, h1, R.to_ex, RS.then_ex]; exact ⟨σ, rfl⟩
  | ok x s1 =>
    rw [z] at h1; obtain ⟨d, h1, r1⟩ := h1
    obtain ⟨d1, d2, rfl, p1, p2⟩ := Rp.pair r1
    have o : noF d1 = true ∧ noF d2 = true := by
      have := r1.2
      simpa using this
    simp only [mSeq, mUnpO2, h1, R.to_ok]
    have hi := Nat.le_of_ble_eq_true hi
    have hj := Nat.le_of_ble_eq_true hj
    rw [if_pos o, if_pos ⟨by omega, by omega⟩]
    simp only [RS.then_nx]
    exact n x _ s1 ((M.set i (ptm ⟨p1, o.1⟩)).set j (ptm ⟨p2, o.2⟩))
theorem ts_retPP {ea : Ec β} {x : α} {y : β} (i j : Nat) (ne : Nat.beq i j = false := by rfl) (hx : π[i]? = some (.vr .own e x) := by rfl) (hy : π[j]? = some (.vr .own ea y) := by rfl) : TS π (mSeq (mRetP i j) rest) π' .own (eP e ea) (rtB (x, y)) := fun σ s M => by
  obtain ⟨d1, q1, r1⟩ := M.get hx
  obtain ⟨d2, q2, r2⟩ := M.get hy
  have hn : i ≠ j := fun z => by subst z; have : Nat.beq i i = true := Nat.beq_refl i; rw [this] at ne; cases ne
  simp only [mSeq, mRetP, q1, q2]
  rw [if_pos hn]
  simp only [RS.then_rt]
  refine ⟨_, rfl, ?_, ?_⟩
  · show D.tup (fzs [d1, d2]) = .tup [e.f x, ea.f y]
    simp [r1.1, r2.1]
  · have a : noF d1 = true := r1.2
    have b : noF d2 = true := r2.2
    show noF (.tup [d1, d2]) = true
    simp [noF, noFs, a, b]
end
end Zm
set_option Elab.async false
set_option linter.all false
set_option maxRecDepth 100000
set_option maxHeartbeats 4000000
set_option autoImplicit false
namespace Zm
open PySem
/-- _law_tower -/
def g__law_tower (rooms : (List (List Int))) : G ((List (List Int)) × (List (List Int))) := fnT (τ := Unit) (eb (pr (([] : (List (List Int))), ([] : (List (List Int))))) fun v3 => (sq (τ := ((List (List Int)) × (List (List Int)))) (forT (fun row (v4 : ((List (List Int)) × (List (List Int)))) => (sq (τ := ((List (List Int)))) (forT (fun x8 (v7 : ((List (List Int)))) => (sq (τ := ((List (List Int)))) (eb (rangeT x8.2) fun xs => forT (fun turn (v9 : ((List (List Int)))) => (lt ((some x8.1), (0 : Int)) fun v13 => (sq (τ := ((List (List Int)) × (Option Int) × Int)) (whileT (fun (v14 : ((List (List Int)) × (Option Int) × Int)) => (pr v14.2.1.isSome)) (fun (v14 : ((List (List Int)) × (Option Int) × Int)) => (sq (τ := ((List (List Int)))) (if (decide (v14.2.2 = (v14.1.length : Int))) = true then (apB v14.1 ([] : (List Int)) fun rows => (nxB rows)) else (nxB v14.1)) fun (v20 : ((List (List Int)))) => (eb (bd (bd (bd (ixT v20 v14.2.2) fun y24 => (pr (y24.length : Int))) rangeT) fun z32 => compG z32 (fun x => (bd (bd (ixT v20 v14.2.2) fun y28 => (ixT y28 x)) fun y30 => (bd (getT v14.2.1) fun y31 => (pr (decide (y31 < y30)))))) (fun x => (pr x))) fun greater => (sq (τ := ((List (List Int)) × (Option Int) × Int)) (if (decide (greater = ([] : (List Int)))) = true then (app2B v20 v14.2.2 (getT v14.2.1) fun rows1 => (lt none fun letter => (nxB (rows1, letter, v14.2.2)))) else (eb (ixT greater (0 : Int)) fun spot => (eb (bd (ixT v20 v14.2.2) fun y40 => (ixT y40 spot)) fun other => (eb (getT v14.2.1) fun y47 => set2B v20 v14.2.2 spot y47 fun rows2 => (lt ((some other), (v14.2.2 + (1 : Int))) fun v46 => (nxB (rows2, v46.1, v46.2))))))) fun (v35 : ((List (List Int)) × (Option Int) × Int)) => (nxB (v35.1, v35.2.1, v35.2.2)))))) 1000 (v9, v13.1, v13.2)) fun (v14 : ((List (List Int)) × (Option Int) × Int)) => (nxB v14.1)))) xs v7) fun (v9 : ((List (List Int)))) => (nxB v9))) (enumT 0 row) v4.1) fun (v7 : ((List (List Int)))) => (eb (mapT v7 (fun one1 => (one1.length : Int))) fun y52 => apB v4.2 y52 fun lengths => (nxB (v7, lengths))))) rooms (v3.1, v3.2)) fun (v4 : ((List (List Int)) × (List (List Int)))) => (rtB (v4.1, v4.2))))
theorem tf__law_tower {rooms : (List (List Int))} {d_0 : D} (h_0 : Rp .any (eT (eT eI)) rooms d_0) (s : Sto) : Rf .any (eP (eL (eL eI)) (eL (eL eI))) (g__law_tower rooms s) (f__law_tower [d_0] s) := fn_ok (π' := fun _ : Unit => nosP 14) rfl (mt_cons h_0.plain (mt_nos 13)) (ts_unpO2 1 2 (TP.te (tp_op (pa (tp_op (pa_nil (x_lstO (RpL.nil (k := .own) (e := (eL eI)))))) fun d1 r1 => (pa (tp_op (pa_nil (x_lstO (RpL.nil (k := .own) (e := (eL eI)))))) fun d2 r2 => (pa_nil (x_pairO r1 r2)))))) fun v3 => (at_ [.vr .pl (eT (eT eI)) rooms, .vr .own (eL (eL eI)) v3.1, .vr .own (eL (eL eI)) v3.2, .no, .no, .no, .no, .no, .no, .no, .no, .no, .no, .no] (ts_sq (π' := (fun (v4 : (List (List Int)) × (List (List Int))) => [.vr .pl (eT (eT eI)) rooms, .vr .own (eL (eL eI)) v4.1, .vr .own (eL (eL eI)) v4.2, .no, .no, .no, .no, .no, .no, .no, .no, .no, .no, .no])) (ts_for (v0 := (v3.1, v3.2)) (fun (v4 : (List (List Int)) × (List (List Int))) => [.vr .pl (eT (eT eI)) rooms, .vr .own (eL (eL eI)) v4.1, .vr .own (eL (eL eI)) v4.2, .no, .no, .no, .no, .no, .no, .no, .no, .no, .no, .no]) (tip_seq (it_T (te_varP 0))) (wk_eq (wk_eq (wk_eq (wk_no (wk_no (wk_no (wk_no (wk_no (wk_no (wk_no (wk_no (wk_no (wk_no (wk_no wk_nil)))))))))))))) (fun row (v4 : ((List (List Int)) × (List (List Int)))) => ⟨[.vr .pl (eT (eT eI)) rooms, .vr .own (eL (eL eI)) v4.1, .vr .own (eL (eL eI)) v4.2, .vr .pl (eT eI) row, .no, .no, .no, .no, .no, .no, .no, .no, .no, .no], (tb_nmP (i := 3)), (ts_sq (π' := (fun (v7 : (List (List Int))) => [.vr .pl (eT (eT eI)) rooms, .vr .own (eL (eL eI)) v7, .vr .own (eL (eL eI)) v4.2, .vr .pl (eT eI) row, .no, .no, .no, .no, .no, .no, .no, .no, .no, .no])) (ts_for (v0 := v4.1) (fun (v7 : (List (List Int))) => [.vr .pl (eT (eT eI)) rooms, .vr .own (eL (eL eI)) v7, .vr .own (eL (eL eI)) v4.2, .vr .pl (eT eI) row, .no, .no, .no, .no, .no, .no, .no, .no, .no, .no]) (tip_enum (it_T (te_varP 3))) (wk_eq (wk_eq (wk_eq (wk_eq (wk_no (wk_no (wk_no (wk_no (wk_no (wk_no (wk_no (wk_no (wk_no (wk_no wk_nil)))))))))))))) (fun x8 (v7 : ((List (List Int)))) => ⟨[.vr .pl (eT (eT eI)) rooms, .vr .own (eL (eL eI)) v7, .vr .own (eL (eL eI)) v4.2, .vr .pl (eT eI) row, .vr .pl eI x8.1, .vr .pl eI x8.2, .no, .no, .no, .no, .no, .no, .no, .no], (tb_t2 (tb_nmP (i := 4)) (tb_nmP (i := 5))), (ts_one (ts_sq (π' := (fun (v9 : (List (List Int))) => [.vr .pl (eT (eT eI)) rooms, .vr .own (eL (eL eI)) v9, .vr .own (eL (eL eI)) v4.2, .vr .pl (eT eI) row, .vr .pl eI x8.1, .vr .pl eI x8.2, .no, .no, .no, .no, .no, .no, .no, .no])) (ts_forP (v0 := v7) (fun (v9 : (List (List Int))) => [.vr .pl (eT (eT eI)) rooms, .vr .own (eL (eL eI)) v9, .vr .own (eL (eL eI)) v4.2, .vr .pl (eT eI) row, .vr .pl eI x8.1, .vr .pl eI x8.2, .no, .no, .no, .no, .no, .no, .no, .no]) (ti_r1p (te_varP 5)) (wk_eq (wk_eq (wk_eq (wk_eq (wk_eq (wk_eq (wk_no (wk_no (wk_no (wk_no (wk_no (wk_no (wk_no (wk_no wk_nil)))))))))))))) (fun turn (v9 : ((List (List Int)))) => ⟨[.vr .pl (eT (eT eI)) rooms, .vr .own (eL (eL eI)) v9, .vr .own (eL (eL eI)) v4.2, .vr .pl (eT eI) row, .vr .pl eI x8.1, .vr .pl eI x8.2, .vr .pl eI turn, .no, .no, .no, .no, .no, .no, .no], (tb_nmP (i := 6)), (ts_unpQP ((tp_op (pa ((te_varP 4)).someP fun d11 r11 => (pa te_int fun d12 r12 => (pa_nil (x_pair r11 r12)))))).plain (fun v13 => (tb_t2 (tb_nmP (i := 7)) (tb_nmP (i := 8)))) fun v13 => (at_ [.vr .pl (eT (eT eI)) rooms, .vr .own (eL (eL eI)) v9, .vr .own (eL (eL eI)) v4.2, .vr .pl (eT eI) row, .vr .pl eI x8.1, .vr .pl eI x8.2, .vr .pl eI turn, .vr .pl (eO eI) v13.1, .vr .pl eI v13.2, .no, .no, .no, .no, .no] (ts_one (ts_sq (π' := (fun (v14 : (List (List Int)) × (Option Int) × Int) => [.vr .pl (eT (eT eI)) rooms, .vr .own (eL (eL eI)) v14.1, .vr .own (eL (eL eI)) v4.2, .vr .pl (eT eI) row, .vr .pl eI x8.1, .vr .pl eI x8.2, .vr .pl eI turn, .vr .pl (eO eI) v14.2.1, .vr .pl eI v14.2.2, .no, .no, .no, .no, .no])) (ts_while (v0 := (v9, v13.1, v13.2)) (fun (v14 : (List (List Int)) × (Option Int) × Int) => [.vr .pl (eT (eT eI)) rooms, .vr .own (eL (eL eI)) v14.1, .vr .own (eL (eL eI)) v4.2, .vr .pl (eT eI) row, .vr .pl eI x8.1, .vr .pl eI x8.2, .vr .pl eI turn, .vr .pl (eO eI) v14.2.1, .vr .pl eI v14.2.2, .no, .no, .no, .no, .no]) (wk_eq (wk_eq (wk_eq (wk_eq (wk_eq (wk_eq (wk_eq (wk_eq (wk_eq (wk_no (wk_no (wk_no (wk_no (wk_no wk_nil)))))))))))))) (fun (v14 : ((List (List Int)) × (Option Int) × Int)) => (TCp.tc (tcp_V (tp_op (pa (te_varP 7) fun d15 r15 => pa (te_non) fun d16 r16 => pa_nil (r16.non ▸ x_notO r15)))))) (fun (v14 : ((List (List Int)) × (Option Int) × Int)) => (ts_sq (π' := (fun (v20 : (List (List Int))) => [.vr .pl (eT (eT eI)) rooms, .vr .own (eL (eL eI)) v20, .vr .own (eL (eL eI)) v4.2, .vr .pl (eT eI) row, .vr .pl eI x8.1, .vr .pl eI x8.2, .vr .pl eI turn, .vr .pl (eO eI) v14.2.1, .vr .pl eI v14.2.2, .no, .no, .no, .no, .no])) (ts_ifp (tcp_V (tp_op (pa (te_varP 8) fun d18 r18 => (pa (tp_op (pa (te_var 1) fun d17 r17 => (pa_nil (x_lenL r17)))) fun d19 r19 => (pa_nil (x_eq (e := eI) r18 r19)))))) (ts_one (ts_appP 1 (tp_op (pa_nil (x_lstO (RpL.nil (k := .own) (e := eI))))) fun rows => (at_ [.vr .pl (eT (eT eI)) rooms, .vr .own (eL (eL eI)) rows, .vr .own (eL (eL eI)) v4.2, .vr .pl (eT eI) row, .vr .pl eI x8.1, .vr .pl eI x8.2, .vr .pl eI turn, .vr .pl (eO eI) v14.2.1, .vr .pl eI v14.2.2, .no, .no, .no, .no, .no] (ts_nil (v := rows) (wk_eq (wk_eq (wk_eq (wk_eq (wk_eq (wk_eq (wk_eq (wk_eq (wk_eq (wk_no (wk_no (wk_no (wk_no (wk_no wk_nil)))))))))))))))))) (ts_nil (v := v14.1) (wk_eq (wk_eq (wk_eq (wk_eq (wk_eq (wk_eq (wk_eq (wk_eq (wk_eq (wk_no (wk_no (wk_no (wk_no (wk_no wk_nil)))))))))))))))) fun (v20 : ((List (List Int)))) => (ts_setE (i := 9) (te_lcOE (ti_r1 (te_op (ta_E (te_op (ta_P (te_var 1) fun d22 r22 => (ta_P (te_varP 8) fun d23 r23 => (ta_nil (x_ixL r22 r23))))) fun y24 d24 r24 => (ta_nil (ok_p (x_lenL r24)))))) (fun x => ⟨[.vr .pl (eT (eT eI)) rooms, .vr .fro (eL (eL eI)) v20, .vr .fro (eL (eL eI)) v4.2, .vr .pl (eT eI) row, .vr .pl eI x8.1, .vr .pl eI x8.2, .vr .pl eI turn, .vr .pl (eO eI) v14.2.1, .vr .pl eI v14.2.2, .no, .vr .pl eI x, .no, .no, .no], (tb_nmP (i := 10)), (tc_V (te_op (ta_E ((te_op (ta_E (te_op (ta_P (te_var 1) fun d26 r26 => (ta_P (te_varP 8) fun d27 r27 => (ta_nil (x_ixL r26 r27))))) fun y28 d28 r28 => (ta_P (te_varP 10) fun d29 r29 => (ta_nil (x_ixL r28 r29)))))).plain fun y30 d30 r30 => (ta_E (te_get (te_varP 7)) fun y31 d31 r31 => (ta_nil (ok_p (x_gt r30 r31))))))), (TP.te ((te_varP 10)).own)⟩)) fun greater => (at_ [.vr .pl (eT (eT eI)) rooms, .vr .own (eL (eL eI)) v20, .vr .own (eL (eL eI)) v4.2, .vr .pl (eT eI) row, .vr .pl eI x8.1, .vr .pl eI x8.2, .vr .pl eI turn, .vr .pl (eO eI) v14.2.1, .vr .pl eI v14.2.2, .vr .own (eL eI) greater, .no, .no, .no, .no] (ts_one (ts_sq (π' := (fun (v35 : (List (List Int)) × (Option Int) × Int) => [.vr .pl (eT (eT eI)) rooms, .vr .own (eL (eL eI)) v35.1, .vr .own (eL (eL eI)) v4.2, .vr .pl (eT eI) row, .vr .pl eI x8.1, .vr .pl eI x8.2, .vr .pl eI turn, .vr .pl (eO eI) v35.2.1, .vr .pl eI v35.2.2, .vr .own (eL eI) greater, .no, .no, .no, .no])) (ts_ifp (tcp_V (tp_op (pa (te_var 9) fun d33 r33 => (pa (tp_op (pa_nil (x_lstO (RpL.nil (k := .own) (e := eI))))) fun d34 r34 => (pa_nil (x_eq (e := (eL eI)) r33 r34)))))) (ts_app2 1 (te_varP 8) (te_get (te_varP 7)) fun rows1 => (at_ [.vr .pl (eT (eT eI)) rooms, .vr .own (eL (eL eI)) rows1, .vr .own (eL (eL eI)) v4.2, .vr .pl (eT eI) row, .vr .pl eI x8.1, .vr .pl eI x8.2, .vr .pl eI turn, .vr .pl (eO eI) v14.2.1, .vr .pl eI v14.2.2, .vr .own (eL eI) greater, .no, .no, .no, .no] (ts_one (ts_setPlP (i := 7) (te_none).plain fun letter => (at_ [.vr .pl (eT (eT eI)) rooms, .vr .own (eL (eL eI)) rows1, .vr .own (eL (eL eI)) v4.2, .vr .pl (eT eI) row, .vr .pl eI x8.1, .vr .pl eI x8.2, .vr .pl eI turn, .vr .pl (eO eI) letter, .vr .pl eI v14.2.2, .vr .own (eL eI) greater, .no, .no, .no, .no] (ts_nil (v := (rows1, letter, v14.2.2)) (wk_eq (wk_eq (wk_eq (wk_eq (wk_eq (wk_eq (wk_eq (wk_eq (wk_eq (wk_eq (wk_no (wk_no (wk_no (wk_no wk_nil)))))))))))))))))))) (ts_setPlE (i := 11) ((te_op (ta_P (te_var 9) fun d36 r36 => (ta_P te_int fun d37 r37 => (ta_nil (x_ixL r36 r37)))))).plain fun spot => (at_ [.vr .pl (eT (eT eI)) rooms, .vr .own (eL (eL eI)) v20, .vr .own (eL (eL eI)) v4.2, .vr .pl (eT eI) row, .vr .pl eI x8.1, .vr .pl eI x8.2, .vr .pl eI turn, .vr .pl (eO eI) v14.2.1, .vr .pl eI v14.2.2, .vr .own (eL eI) greater, .no, .vr .pl eI spot, .no, .no] (ts_setPlE (i := 12) ((te_op (ta_E (te_op (ta_P (te_var 1) fun d38 r38 => (ta_P (te_varP 8) fun d39 r39 => (ta_nil (x_ixL r38 r39))))) fun y40 d40 r40 => (ta_P (te_varP 11) fun d41 r41 => (ta_nil (x_ixL r40 r41)))))).plain fun other => (at_ [.vr .pl (eT (eT eI)) rooms, .vr .own (eL (eL eI)) v20, .vr .own (eL (eL eI)) v4.2, .vr .pl (eT eI) row, .vr .pl eI x8.1, .vr .pl eI x8.2, .vr .pl eI turn, .vr .pl (eO eI) v14.2.1, .vr .pl eI v14.2.2, .vr .own (eL eI) greater, .no, .vr .pl eI spot, .vr .pl eI other, .no] (ts_st2 1 (te_get (te_varP 7)) (te_varP 8) (te_varP 11) fun rows2 => (at_ [.vr .pl (eT (eT eI)) rooms, .vr .own (eL (eL eI)) rows2, .vr .own (eL (eL eI)) v4.2, .vr .pl (eT eI) row, .vr .pl eI x8.1, .vr .pl eI x8.2, .vr .pl eI turn, .vr .pl (eO eI) v14.2.1, .vr .pl eI v14.2.2, .vr .own (eL eI) greater, .no, .vr .pl eI spot, .vr .pl eI other, .no] (ts_one (ts_unpQP ((tp_op (pa ((te_varP 12)).someP fun d44 r44 => (pa (tp_op (pa (te_varP 8) fun d42 r42 => (pa te_int fun d43 r43 => (pa_nil (x_addI r42 r43))))) fun d45 r45 => (pa_nil (x_pair r44 r45)))))).plain (fun v46 => (tb_t2 (tb_nmP (i := 7)) (tb_nmP (i := 8)))) fun v46 => (at_ [.vr .pl (eT (eT eI)) rooms, .vr .own (eL (eL eI)) rows2, .vr .own (eL (eL eI)) v4.2, .vr .pl (eT eI) row, .vr .pl eI x8.1, .vr .pl eI x8.2, .vr .pl eI turn, .vr .pl (eO eI) v46.1, .vr .pl eI v46.2, .vr .own (eL eI) greater, .no, .vr .pl eI spot, .vr .pl eI other, .no] (ts_nil (v := (rows2, v46.1, v46.2)) (wk_eq (wk_eq (wk_eq (wk_eq (wk_eq (wk_eq (wk_eq (wk_eq (wk_eq (wk_eq (wk_no (wk_no (wk_no (wk_no wk_nil))))))))))))))))))))))))) fun (v35 : ((List (List Int)) × (Option Int) × Int)) => (ts_nil (v := (v35.1, v35.2.1, v35.2.2)) (wk_eq (wk_eq (wk_eq (wk_eq (wk_eq (wk_eq (wk_eq (wk_eq (wk_eq (wk_no (wk_no (wk_no (wk_no (wk_no wk_nil)))))))))))))))))))))) fun (v14 : ((List (List Int)) × (Option Int) × Int)) => (ts_nil (v := v14.1) (wk_eq (wk_eq (wk_eq (wk_eq (wk_eq (wk_eq (wk_no (wk_no (wk_no (wk_no (wk_no (wk_no (wk_no (wk_no wk_nil)))))))))))))))))))⟩)) fun (v9 : ((List (List Int)))) => (ts_nil (v := v9) (wk_eq (wk_eq (wk_eq (wk_eq (wk_no (wk_no (wk_no (wk_no (wk_no (wk_no (wk_no (wk_no (wk_no (wk_no wk_nil)))))))))))))))))⟩)) fun (v7 : ((List (List Int)))) => (ts_one (ts_appE 2 (te_mapTO (tip_seq (it_L (te_var 1))) (fun one1 => ⟨[.vr .pl (eT (eT eI)) rooms, .vr .fro (eL (eL eI)) v7, .vr .fro (eL (eL eI)) v4.2, .vr .pl (eT eI) row, .no, .no, .no, .no, .no, .no, .no, .no, .no, .vr .fro (eL eI) one1], (tb_nm (i := 13)), ((tp_op (pa (te_var 13) fun d51 r51 => (pa_nil (x_lenL r51))))).own⟩)) fun lengths => (at_ [.vr .pl (eT (eT eI)) rooms, .vr .own (eL (eL eI)) v7, .vr .own (eL (eL eI)) lengths, .vr .pl (eT eI) row, .no, .no, .no, .no, .no, .no, .no, .no, .no, .no] (ts_nil (v := (v7, lengths)) (wk_eq (wk_eq (wk_eq (wk_no (wk_no (wk_no (wk_no (wk_no (wk_no (wk_no (wk_no (wk_no (wk_no (wk_no wk_nil)))))))))))))))))))⟩)) fun (v4 : ((List (List Int)) × (List (List Int)))) => (ts_one (ts_retP (tp_op (pa (te_var 1) fun d53 r53 => (pa (te_var 2) fun d54 r54 => (pa_nil (x_pair r53 r54))))))))))
/-- _law_due -/
def g__law_due_9ac8 (rooms : (List (List Int))) : G ((List (List Int)) × (List (List Int))) := fnT (τ := Unit) (eb (g__law_tower rooms) fun v2 => (eb (pr (rooms.length : Int)) fun size => eb (bd (ixT rooms (0 : Int)) fun y6 => (pr (y6.length : Int))) fun long => (lt ([] : (List (List Int))) fun by_people => (sq (τ := ((List (List Int)))) (eb (rangeT2 (1 : Int) (long + (1 : Int))) fun xs => forT (fun k (v9 : ((List (List Int)))) => (eb (bd (mapG v2.1 (fun row => (bd (filT row (fun one => (decide (one < k))) (fun one => one)) fun y15 => (pr (y15.length : Int))))) fun y19 => (bd (repT (0 : Int) (8 : Int)) fun y20 => (catT y19 y20))) fun line => (apB v9 (cutD line none (some (min k size))) fun by_people1 => (nxB by_people1)))) xs by_people) fun (v9 : ((List (List Int)))) => (lt ([] : (List (List Int))) fun by_rows => (sq (τ := ((List (List Int)))) (eb (rangeT2 (1 : Int) (size + (1 : Int))) fun xs => forT (fun k1 (v34 : ((List (List Int)))) => (eb (bd (bd (bd (ixT v2.2 (k1 - (1 : Int))) fun y57 => (bd (repT (0 : Int) (8 : Int)) fun y58 => (catT y57 y58))) fun y61 => (pr (cutD y61 none (some (min k1 long))))) fun y63 => (pr y63)) fun y64 => apB v34 y64 fun by_rows1 => (nxB by_rows1))) xs by_rows) fun (v34 : ((List (List Int)))) => (rtB (v9, v34))))))))
theorem tf__law_due_9ac8 {rooms : (List (List Int))} {d_0 : D} (h_0 : Rp .any (eT (eT eI)) rooms d_0) (s : Sto) : Rf .any (eP (eL (eT eI)) (eL (eT eI))) (g__law_due_9ac8 rooms s) (f__law_due_9ac8 [d_0] s) := fn_ok (π' := fun _ : Unit => nosP 11) rfl (mt_cons h_0.plain (mt_nos 10)) (ts_unpD (te_call (ta_P (te_varP 0) fun d1 r1 => (ta_nil (fun s => tf__law_tower r1.any s)))) (fun v2 => (tb_t2 (tb_nm (i := 1)) (tb_nm (i := 2)))) fun v2 => (at_ [.vr .pl (eT (eT eI)) rooms, .vr .fro (eL (eL eI)) v2.1, .vr .fro (eL (eL eI)) v2.2, .no, .no, .no, .no, .no, .no, .no, .no] (ts_par2Pl (i := 3) (j := 4) (TP.te (tp_op (pa (te_varP 0) fun d3 r3 => (pa_nil (x_lenT r3))))) (te_op (ta_E (te_op (ta_P (te_varP 0) fun d4 r4 => (ta_P te_int fun d5 r5 => (ta_nil (x_ixT r4 r5))))) fun y6 d6 r6 => (ta_nil (ok_p (x_lenT r6))))) fun size long => (at_ [.vr .pl (eT (eT eI)) rooms, .vr .fro (eL (eL eI)) v2.1, .vr .fro (eL (eL eI)) v2.2, .vr .pl eI size, .vr .pl eI long, .no, .no, .no, .no, .no, .no] (ts_setP (i := 5) (tp_op (pa_nil (x_lstO (RpL.nil (k := .own) (e := (eT eI)))))) fun by_people => (at_ [.vr .pl (eT (eT eI)) rooms, .vr .fro (eL (eL eI)) v2.1, .vr .fro (eL (eL eI)) v2.2, .vr .pl eI size, .vr .pl eI long, .vr .own (eL (eT eI)) by_people, .no, .no, .no, .no, .no] (ts_sq (π' := (fun (v9 : (List (List Int))) => [.vr .pl (eT (eT eI)) rooms, .vr .fro (eL (eL eI)) v2.1, .vr .fro (eL (eL eI)) v2.2, .vr .pl eI size, .vr .pl eI long, .vr .own (eL (eT eI)) v9, .no, .no, .no, .no, .no])) (ts_forP (v0 := by_people) (fun (v9 : (List (List Int))) => [.vr .pl (eT (eT eI)) rooms, .vr .fro (eL (eL eI)) v2.1, .vr .fro (eL (eL eI)) v2.2, .vr .pl eI size, .vr .pl eI long, .vr .own (eL (eT eI)) v9, .no, .no, .no, .no, .no]) (ti_r2p te_int (tp_op (pa (te_varP 4) fun d7 r7 => (pa te_int fun d8 r8 => (pa_nil (x_addI r7 r8)))))) (wk_eq (wk_eq (wk_eq (wk_eq (wk_eq (wk_eq (wk_no (wk_no (wk_no (wk_no (wk_no wk_nil))))))))))) (fun k (v9 : ((List (List Int)))) => ⟨[.vr .pl (eT (eT eI)) rooms, .vr .fro (eL (eL eI)) v2.1, .vr .fro (eL (eL eI)) v2.2, .vr .pl eI size, .vr .pl eI long, .vr .own (eL (eT eI)) v9, .vr .pl eI k, .no, .no, .no, .no], (tb_nmP (i := 6)), (ts_setE (i := 7) (te_op (ta_E (te_mapO (tip_seq (it_L (te_var 1))) (fun row => ⟨[.vr .pl (eT (eT eI)) rooms, .vr .fro (eL (eL eI)) v2.1, .vr .fro (eL (eL eI)) v2.2, .vr .pl eI size, .vr .pl eI long, .vr .fro (eL (eT eI)) v9, .vr .pl eI k, .no, .no, .vr .fro (eL eI) row, .no], (tb_nm (i := 9)), ((te_op (ta_E (te_filTO (tip_seq (it_L (te_var 9))) (fun one => ⟨[.vr .pl (eT (eT eI)) rooms, .vr .fro (eL (eL eI)) v2.1, .vr .fro (eL (eL eI)) v2.2, .vr .pl eI size, .vr .pl eI long, .vr .fro (eL (eT eI)) v9, .vr .pl eI k, .no, .vr .pl eI one, .vr .fro (eL eI) row, .no], (tb_nmP (i := 8)), (tcp_V (tp_op (pa (te_varP 8) fun d13 r13 => (pa (te_varP 6) fun d14 r14 => (pa_nil (x_lt r13 r14)))))), ((te_varP 8)).own⟩)) fun y15 d15 r15 => (ta_nil (ok_p (x_lenL r15)))))).own⟩)) fun y19 d19 r19 => (ta_E (te_op (ta_P (tp_op (pa te_int fun d16 r16 => (pa_nil (x_lstP (RpL.cons r16 RpL.nil))))) fun d17 r17 => (ta_P te_int fun d18 r18 => (ta_nil (x_rep r17 r18))))) fun y20 d20 r20 => (ta_nil (x_catP r19 r20))))) fun line => (at_ [.vr .pl (eT (eT eI)) rooms, .vr .fro (eL (eL eI)) v2.1, .vr .fro (eL (eL eI)) v2.2, .vr .pl eI size, .vr .pl eI long, .vr .own (eL (eT eI)) v9, .vr .pl eI k, .vr .own (eL eI) line, .no, .no, .no] (ts_one (ts_appP 5 (((tp_op (pa (tp_op (pa (te_var 7) fun d28 r28 => (pa (tp_op (pa (te_varP 6) fun d26 r26 => (pa (te_varP 3) fun d27 r27 => (pa_nil (x_min2 r26 r27))))) fun d29 r29 => (pa_nil (x_sl01P r28 r29))))) fun d30 r30 => (pa_nil (x_tupL r30))))).plain).own fun by_people1 => (at_ [.vr .pl (eT (eT eI)) rooms, .vr .fro (eL (eL eI)) v2.1, .vr .fro (eL (eL eI)) v2.2, .vr .pl eI size, .vr .pl eI long, .vr .own (eL (eT eI)) by_people1, .vr .pl eI k, .vr .own (eL eI) line, .no, .no, .no] (ts_nil (v := by_people1) (wk_eq (wk_eq (wk_eq (wk_eq (wk_eq (wk_eq (wk_no (wk_no (wk_no (wk_no (wk_no wk_nil)))))))))))))))))⟩)) fun (v9 : ((List (List Int)))) => (ts_setP (i := 10) (tp_op (pa_nil (x_lstO (RpL.nil (k := .own) (e := (eT eI)))))) fun by_rows => (at_ [.vr .pl (eT (eT eI)) rooms, .vr .fro (eL (eL eI)) v2.1, .vr .fro (eL (eL eI)) v2.2, .vr .pl eI size, .vr .pl eI long, .vr .own (eL (eT eI)) v9, .no, .no, .no, .no, .vr .own (eL (eT eI)) by_rows] (ts_sq (π' := (fun (v34 : (List (List Int))) => [.vr .pl (eT (eT eI)) rooms, .vr .fro (eL (eL eI)) v2.1, .vr .fro (eL (eL eI)) v2.2, .vr .pl eI size, .vr .pl eI long, .vr .own (eL (eT eI)) v9, .no, .no, .no, .no, .vr .own (eL (eT eI)) v34])) (ts_forP (v0 := by_rows) (fun (v34 : (List (List Int))) => [.vr .pl (eT (eT eI)) rooms, .vr .fro (eL (eL eI)) v2.1, .vr .fro (eL (eL eI)) v2.2, .vr .pl eI size, .vr .pl eI long, .vr .own (eL (eT eI)) v9, .no, .no, .no, .no, .vr .own (eL (eT eI)) v34]) (ti_r2p te_int (tp_op (pa (te_varP 3) fun d32 r32 => (pa te_int fun d33 r33 => (pa_nil (x_addI r32 r33)))))) (wk_eq (wk_eq (wk_eq (wk_eq (wk_eq (wk_eq (wk_no (wk_no (wk_no (wk_no (wk_eq wk_nil))))))))))) (fun k1 (v34 : ((List (List Int)))) => ⟨[.vr .pl (eT (eT eI)) rooms, .vr .fro (eL (eL eI)) v2.1, .vr .fro (eL (eL eI)) v2.2, .vr .pl eI size, .vr .pl eI long, .vr .own (eL (eT eI)) v9, .vr .pl eI k1, .no, .no, .no, .vr .own (eL (eT eI)) v34], (tb_nmP (i := 6)), (ts_one (ts_appE 10 (((te_op (ta_E (te_op (ta_E (te_op (ta_E (te_op (ta_P (te_var 2) fun d52 r52 => (ta_P (tp_op (pa (te_varP 6) fun d50 r50 => (pa te_int fun d51 r51 => (pa_nil (x_sub r50 r51))))) fun d53 r53 => (ta_nil (x_ixL r52 r53))))) fun y57 d57 r57 => (ta_E (te_op (ta_P (tp_op (pa te_int fun d54 r54 => (pa_nil (x_lstP (RpL.cons r54 RpL.nil))))) fun d55 r55 => (ta_P te_int fun d56 r56 => (ta_nil (x_rep r55 r56))))) fun y58 d58 r58 => (ta_nil (x_catP r57 r58))))) fun y61 d61 r61 => (ta_P (tp_op (pa (te_varP 6) fun d59 r59 => (pa (te_varP 4) fun d60 r60 => (pa_nil (x_min2 r59 r60))))) fun d62 r62 => (ta_nil (ok_p (x_sl01P r61 r62)))))) fun y63 d63 r63 => (ta_nil (ok_p (x_tupL r63)))))).plain).own fun by_rows1 => (at_ [.vr .pl (eT (eT eI)) rooms, .vr .fro (eL (eL eI)) v2.1, .vr .fro (eL (eL eI)) v2.2, .vr .pl eI size, .vr .pl eI long, .vr .own (eL (eT eI)) v9, .vr .pl eI k1, .no, .no, .no, .vr .own (eL (eT eI)) by_rows1] (ts_nil (v := by_rows1) (wk_eq (wk_eq (wk_eq (wk_eq (wk_eq (wk_eq (wk_no (wk_no (wk_no (wk_no (wk_eq wk_nil)))))))))))))))⟩)) fun (v34 : ((List (List Int)))) => (ts_one (ts_retP (tp_op (pa (te_var 5) fun d65 r65 => (pa (te_var 10) fun d66 r66 => (pa_nil (x_pair r65 r66)))))))))))))))))
/-- towers_of -/
def g_towers_of_o (hall : (List (List Int))) : G ((List (List Int)) × (List (List Int))) := fnT (τ := Unit) (eb (g_shapes hall) fun rows => (eb (bd (bd (bd (ixT rows (-(1 : Int))) fun y5 => (pr (cutD y5 (some (1 : Int)) none))) fun z7 => (pr (enumT 0 z7))) fun z16 => mapG z16 (fun x8 => (g_trimmed x8.2 (min (x8.1 + (1 : Int)) (hall.length : Int))))) fun by_customers => (eb (mapG (enumT 0 (cutD rows (some (1 : Int)) none)) (fun x20 => (bd (ixT x20.2 (-(1 : Int))) fun y31 => (bd (bd (bd (ixT hall (0 : Int)) fun y28 => (pr (y28.length : Int))) fun y30 => (pr (min (x20.1 + (1 : Int)) y30))) fun y32 => (g_trimmed y31 y32))))) fun by_counters => (rtB (by_customers, by_counters)))))
theorem tf_towers_of_o {hall : (List (List Int))} {d_0 : D} (h_0 : Rp .any (eT (eT eI)) hall d_0) (s : Sto) : Rf .own (eP (eL (eT eI)) (eL (eT eI))) (g_towers_of_o hall s) (f_towers_of_o [d_0] s) := fn_ok (π' := fun _ : Unit => nosP 7) rfl (mt_cons h_0.plain (mt_nos 6)) (ts_setAE (i := 1) (te_call (ta_P (te_varP 0) fun d1 r1 => (ta_nil (fun s => tf_shapes r1.any s)))) fun rows => (at_ [.vr .pl (eT (eT eI)) hall, .vr .any (eL (eL (eL eI))) rows, .no, .no, .no, .no, .no] (ts_setE (i := 2) (te_mapOE (ti_enum (itE_L (te_op (ta_E (te_op (ta_P (te_var 1) fun d3 r3 => (ta_P (tp_op (pa te_int fun d2 r2 => (pa_nil (x_neg r2)))) fun d4 r4 => (ta_nil (x_ixL r3 r4))))) fun y5 d5 r5 => (ta_P te_int fun d6 r6 => (ta_nil (ok_p (x_sl10L r5 r6)))))))) (fun x8 => ⟨[.vr .pl (eT (eT eI)) hall, .vr .fro (eL (eL (eL eI))) rows, .no, .vr .pl eI x8.1, .vr .fro (eL eI) x8.2, .no, .no], (tb_t2 (tb_nmP (i := 3)) (tb_nm (i := 4))), ((te_call (ta_P (te_var 4) fun d14 r14 => (ta_P (tp_op (pa (tp_op (pa (te_varP 3) fun d9 r9 => (pa te_int fun d10 r10 => (pa_nil (x_addI r9 r10))))) fun d12 r12 => (pa (tp_op (pa (te_varP 0) fun d11 r11 => (pa_nil (x_lenT r11)))) fun d13 r13 => (pa_nil (x_min2 r12 r13))))) fun d15 r15 => (ta_nil (fun s => tf_trimmed r14.any r15.any s)))))).own⟩)) fun by_customers => (at_ [.vr .pl (eT (eT eI)) hall, .vr .any (eL (eL (eL eI))) rows, .vr .own (eL (eT eI)) by_customers, .no, .no, .no, .no] (ts_setE (i := 5) (te_mapO (tip_enum (it_L (tp_op (pa (te_var 1) fun d17 r17 => (pa te_int fun d18 r18 => (pa_nil (x_sl10L r17 r18))))))) (fun x20 => ⟨[.vr .pl (eT (eT eI)) hall, .vr .fro (eL (eL (eL eI))) rows, .vr .fro (eL (eT eI)) by_customers, .vr .pl eI x20.1, .no, .no, .vr .fro (eL (eL eI)) x20.2], (tb_t2 (tb_nmP (i := 3)) (tb_nm (i := 6))), ((te_call (ta_E (te_op (ta_P (te_var 6) fun d22 r22 => (ta_P (tp_op (pa te_int fun d21 r21 => (pa_nil (x_neg r21)))) fun d23 r23 => (ta_nil (x_ixL r22 r23))))) fun y31 d31 r31 => (ta_E (te_op (ta_P (tp_op (pa (te_varP 3) fun d24 r24 => (pa te_int fun d25 r25 => (pa_nil (x_addI r24 r25))))) fun d29 r29 => (ta_E (te_op (ta_E (te_op (ta_P (te_varP 0) fun d26 r26 => (ta_P te_int fun d27 r27 => (ta_nil (x_ixT r26 r27))))) fun y28 d28 r28 => (ta_nil (ok_p (x_lenT r28))))) fun y30 d30 r30 => (ta_nil (ok_p (x_min2 r29 r30)))))) fun y32 d32 r32 => (ta_nil (fun s => tf_trimmed r31.any r32.any s)))))).own⟩)) fun by_counters => (at_ [.vr .pl (eT (eT eI)) hall, .vr .any (eL (eL (eL eI))) rows, .vr .own (eL (eT eI)) by_customers, .no, .no, .vr .own (eL (eT eI)) by_counters, .no] (ts_one (ts_retPP 2 5))))))))
/-- towers -/
def g_towers_o (hall : (List (List Int))) : G ((List (List Int)) × (List (List Int))) := fnT (τ := Unit) (eb (g_need_hall hall) fun _ => (eb (g_towers_of_o hall) rtB))
theorem tf_towers_o {hall : (List (List Int))} {d_0 : D} (h_0 : Rp .any (eT (eT eI)) hall d_0) (s : Sto) : Rf .own (eP (eL (eT eI)) (eL (eT eI))) (g_towers_o hall s) (f_towers_o [d_0] s) := fn_ok (π' := fun _ : Unit => nosP 1) rfl (mt_cons h_0.plain (mt_nos 0)) (ts_do (te_call (ta_P (te_varP 0) fun d1 r1 => (ta_nil (fun s => tf_need_hall r1.any s)))) (ts_one (ts_retE (te_call (ta_P (te_varP 0) fun d2 r2 => (ta_nil (fun s => tf_towers_of_o r2.any s)))))))
/-- law -/
def g_law (script : (List Int)) : G Bool := fnT (τ := Unit) (sq (τ := (Unit)) (eb (rangeT (max (1 : Int) (min (6 : Int) (script.length : Int)))) fun xs => forT (fun k (v6 : (Unit)) => (eb (bd (bd (g__law_cell_at script k) fun y10 => (pr (y10 + (6 : Int)))) fun y12 => (g__law_bag y12)) fun bag => (eb (g__law_hall_9811 bag (5 : Int) (6 : Int) true) fun rooms => (eb (reprX ((eT (eT eI)).f rooms)) fun before => (eb (g__law_due_9ac8 rooms) fun due => (eb (g_towers_o rooms) fun told => (ifB (orG (notG (g__law_alike_8dc4 ((eP (eL (eT eI)) (eL (eT eI))).f told) ((eP (eL (eT eI)) (eL (eT eI))).f due))) (bd (reprX ((eT (eT eI)).f rooms)) fun y21 => (neX (eS.f y21) (eS.f before)))) (rtB false) (apJ0 (eT eI) told (1 : Int) fun told1 => (ifB (notG (bd (bd (pr told1.2) fun x => pr ((eL (eT eI)).f x)) fun y29 => (bd (bd (pr due.2) fun x => pr ((eL (eT eI)).f x)) fun y30 => (g__law_alike_8dc4 y29 y30)))) (rtB false) (apJ1 (eT eI) told1 (2 : Int) fun told2 => (ifB (notG (bd (bd (g_towers_o rooms) fun x => pr ((eP (eL (eT eI)) (eL (eT eI))).f x)) fun y32 => (g__law_alike_8dc4 y32 ((eP (eL (eT eI)) (eL (eT eI))).f due)))) (rtB false) (nxB ())))))))))))) xs ()) fun (v6 : (Unit)) => (rtB true))
theorem tf_law {script : (List Int)} {d_0 : D} (h_0 : Rp .any eRo script d_0) (s : Sto) : Rf .pl eB (g_law script s) (f_law [d_0] s) := fn_ok (π' := fun _ : Unit => nosP 7) rfl (mt_cons h_0.plain (mt_nos 6)) (ts_sq (π' := (fun (v6 : Unit) => [.vr .pl eRo script, .no, .no, .no, .no, .no, .no])) (ts_forP (v0 := ()) (fun (v6 : Unit) => [.vr .pl eRo script, .no, .no, .no, .no, .no, .no]) (ti_r1p (tp_op (pa te_int fun d4 r4 => (pa (tp_op (pa te_int fun d2 r2 => (pa (tp_op (pa (te_varP 0) fun d1 r1 => (pa_nil (x_lenR r1)))) fun d3 r3 => (pa_nil (x_min2 r2 r3))))) fun d5 r5 => (pa_nil (x_max2 r4 r5)))))) (wk_eq (wk_no (wk_no (wk_no (wk_no (wk_no (wk_no wk_nil))))))) (fun k (v6 : (Unit)) => ⟨[.vr .pl eRo script, .vr .pl eI k, .no, .no, .no, .no, .no], (tb_nmP (i := 1)), (ts_setPlE (i := 2) (te_call (ta_E (te_op (ta_E (te_call (ta_P (te_varP 0) fun d8 r8 => (ta_P (te_varP 1) fun d9 r9 => (ta_nil (fun s => tf__law_cell_at r8.any r9.any s))))) fun y10 d10 r10 => (ta_P te_int fun d11 r11 => (ta_nil (ok_p (x_addI r10 r11)))))) fun y12 d12 r12 => (ta_nil (fun s => tf__law_bag r12.any s)))) fun bag => (at_ [.vr .pl eRo script, .vr .pl eI k, .vr .pl eBx bag, .no, .no, .no, .no] (ts_setPlE (i := 3) (te_call (ta_P (te_varP 2) fun d13 r13 => (ta_P te_int fun d14 r14 => (ta_P te_int fun d15 r15 => (ta_P te_bl fun d16 r16 => (ta_nil (fun s => tf__law_hall_9811 r13.any r14.any r15.any r16.any s))))))) fun rooms => (at_ [.vr .pl eRo script, .vr .pl eI k, .vr .pl eBx bag, .vr .pl (eT (eT eI)) rooms, .no, .no, .no] (ts_setPlE (i := 4) (te_op (ta_P (te_varP 3) fun d17 r17 => (ta_nil (x_repr r17)))) fun before => (at_ [.vr .pl eRo script, .vr .pl eI k, .vr .pl eBx bag, .vr .pl (eT (eT eI)) rooms, .vr .pl eS before, .no, .no] (ts_setAE (i := 5) (te_call (ta_P (te_varP 3) fun d18 r18 => (ta_nil (fun s => tf__law_due_9ac8 r18.any s)))) fun due => (at_ [.vr .pl eRo script, .vr .pl eI k, .vr .pl eBx bag, .vr .pl (eT (eT eI)) rooms, .vr .pl eS before, .vr .any (eP (eL (eT eI)) (eL (eT eI))) due, .no] (ts_setE (i := 6) (te_call (ta_P (te_varP 3) fun d19 r19 => (ta_nil (fun s => tf_towers_o r19.any s)))) fun told => (at_ [.vr .pl eRo script, .vr .pl eI k, .vr .pl eBx bag, .vr .pl (eT (eT eI)) rooms, .vr .pl eS before, .vr .any (eP (eL (eT eI)) (eL (eT eI))) due, .vr .own (eP (eL (eT eI)) (eL (eT eI))) told] (ts_ifD (tc_or (tc_not (tc_V (te_call (ta_P (TP.asXf (te_var 6)) fun d23 r23 => (ta_P (TP.asXf (te_var 5)) fun d24 r24 => (ta_nil (fun s => tf__law_alike_8dc4 r23 r24 s))))))) (tc_V (te_op (ta_E (te_op (ta_P (te_varP 3) fun d20 r20 => (ta_nil (x_repr r20)))) fun y21 d21 r21 => (ta_P (te_varP 4) fun d22 r22 => (ta_nil (x_neX r21 r22))))))) (ts_retP te_bl) (ts_skip (ts_apJ0 6 fun told1 => (at_ [.vr .pl eRo script, .vr .pl eI k, .vr .pl eBx bag, .vr .pl (eT (eT eI)) rooms, .vr .pl eS before, .vr .any (eP (eL (eT eI)) (eL (eT eI))) due, .vr .own (eP eX (eL (eT eI))) told1] (ts_ifD (tc_not (tc_V (te_call (ta_E (TE.asXf (te_fz (TP.te (tp_op (pa (te_var 6) fun d25 r25 => (pa te_int fun d26 r26 => (pa_nil (x_p1 r25 r26)))))))) fun y29 d29 r29 => (ta_E (TE.asXf (te_fz (TP.te (tp_op (pa (te_var 5) fun d27 r27 => (pa te_int fun d28 r28 => (pa_nil (x_p1 r27 r28)))))))) fun y30 d30 r30 => (ta_nil (fun s => tf__law_alike_8dc4 r29 r30 s))))))) (ts_retP te_bl) (ts_skip (ts_apJ1 6 fun told2 => (at_ [.vr .pl eRo script, .vr .pl eI k, .vr .pl eBx bag, .vr .pl (eT (eT eI)) rooms, .vr .pl eS before, .vr .any (eP (eL (eT eI)) (eL (eT eI))) due, .vr .own (eP eX eX) told2] (ts_one (ts_ifD (tc_not (tc_V (te_call (ta_E (TE.asXf (te_fz (te_callK (ta_P (te_varP 3) fun d31 r31 => (ta_nil (fun s => tf_towers_o r31.any s)))))) fun y32 d32 r32 => (ta_P (TP.asXf (te_var 5)) fun d33 r33 => (ta_nil (fun s => tf__law_alike_8dc4 r32 r33 s))))))) (ts_retP te_bl) (ts_skip (ts_nil (v := ()) (wk_eq (wk_no (wk_no (wk_no (wk_no (wk_no (wk_no wk_nil)))))))))))))))))))))))))))))⟩)) fun (v6 : (Unit)) => (ts_one (ts_retP te_bl)))
end Zm
set_option linter.all false
set_option autoImplicit false
set_option maxRecDepth 100000
set_option maxHeartbeats 2000000
/-! R31a: the law's own putting in: typed. -/
namespace Mv
/-- places of greater ones -/
def idx (r : List Int) (k : Int) : List Nat := (List.range r.length).filter fun j => decide (k < r.getD j 0)
theorem idx_cons (x : Int) (r : List Int) (k : Int) : idx (x :: r) k = if k < x then 0 :: (idx r k).map (· + 1) else (idx r k).map (· + 1) := by
  unfold idx
  rw [List.length_cons, List.range_succ_eq_map, List.filter_cons]
  have e : ((List.range r.length).map Nat.succ).filter (fun j => decide (k < (x :: r).getD j 0)) = ((List.range r.length).filter fun j => decide (k < r.getD j 0)).map (· + 1) := by
    rw [List.filter_map]
    rfl
  rw [e]
  show (if decide (k < x) = true then _ else _) = _
  by_cases c : k < x
  · rw [if_pos (by simpa using c), if_pos c]
  · rw [if_neg (by simpa using c), if_neg c]
theorem bump_nil {r : List Int} {k : Int} (h : idx r k = []) : bump r k = (r ++ [k], none) := by
  induction r with
  | nil => rfl
  | cons x r ih =>
    rw [idx_cons] at h
    by_cases c : k < x
    · rw [if_pos c] at h; cases h
    · rw [if_neg c] at h
      have := ih (by simpa using h)
      unfold bump
      rw [if_neg c, this]; rfl
theorem bump_at {r : List Int} {k : Int} {j : Nat} {l : List Nat} (h : idx r k = j :: l) : j < r.length ∧ bump r k = (r.set j k, some (r.getD j 0)) := by
  induction r generalizing j l with
  | nil => simp [idx] at h
  | cons x r ih =>
    rw [idx_cons] at h
    by_cases c : k < x
    · rw [if_pos c] at h
      injection h with h1 h2
      subst h1
      refine ⟨by simp, ?_⟩
      unfold bump
      rw [if_pos c]; rfl
    · rw [if_neg c] at h
      cases e : idx r k with
      | nil => rw [e] at h; cases h
      | cons j' l' =>
        rw [e] at h
        injection h with h1 h2
        subst h1
        obtain ⟨a, b⟩ := ih e
        refine ⟨by simp; exact a, ?_⟩
        unfold bump
        rw [if_neg c, b]
        simp [List.getD]
def Sz (n : Nat) (T : List (List Int)) : Prop := T.length ≤ n ∧ ∀ r ∈ T, r.length ≤ n
theorem ins_sz : ∀ {T : List (List Int)} {n : Nat} (o : Option Int), Sz n T → Sz (n + 1) (pin T o)
  | T, n, none, h => by
    have : pin T none = T := by cases T <;> rfl
    rw [this]
    exact ⟨by have := h.1; omega, fun r hr => by have := h.2 r hr; omega⟩
  | [], n, some k, h => ⟨by simp [pin], fun r hr => by
      have : r = [k] := by simpa [pin] using hr
      subst this; simp⟩
  | r :: T, n, some k, h => by
    have h1 := h.1
    rw [List.length_cons] at h1
    have ih := ins_sz (T := T) (n := n) (bump r k).2 ⟨by omega, fun q hq => h.2 q (List.mem_cons_of_mem _ hq)⟩
    have l1 : ∀ (T : List (List Int)) (o : Option Int), (pin T o).length ≤ T.length + 1 := by
      intro T
      induction T with
      | nil => intro o; cases o <;> simp [pin]
      | cons a T ih => intro o; cases o with
        | none => simp [pin]
        | some k => have := ih (bump a k).2; simp [pin]; omega
    refine ⟨?_, fun q hq => ?_⟩
    · have := l1 T (bump r k).2
      simp only [pin, List.length_cons]; omega
    · rcases List.mem_cons.mp hq with z | z
      · rw [z]
        have := bump_len (r := r) (k := k)
        have := h.2 r (List.mem_cons_self ..)
        omega
      · exact ih.2 q z
theorem insW_sz {T : List (List Int)} {n : Nat} (h : Sz n T) (u : List Int) : Sz (n + u.length) (pinW T u) := by
  induction u generalizing T n with
  | nil => exact h
  | cons k u ih =>
    have := ih (ins_sz (some k) h)
    rw [List.length_cons, show n + (u.length + 1) = n + 1 + u.length by omega]
    exact this
/-- the letters of a counter, before the k-th customer -/
def wrd (w : Nat → Int) : Nat → List Int
  | 0 => []
  | k + 1 => wrd w k ++ List.replicate (w k).toNat (k : Int)
theorem wrd_low {w : Nat → Int} {m : Nat} : ∀ {k : Nat}, k ≤ m → Low k (wrd w k)
  | 0, _ => fun x hx => (by cases hx)
  | k + 1, h => fun x hx => by
    rcases List.mem_append.mp hx with z | z
    · have := wrd_low (w := w) (m := m) (show k ≤ m by omega) x z; omega
    · have := (List.mem_replicate.mp z).2; omega
theorem wrd_srt {w : Nat → Int} : ∀ k : Nat, Srt (wrd w k)
  | 0 => List.Pairwise.nil
  | k + 1 => List.pairwise_append.mpr ⟨wrd_srt k, List.pairwise_replicate.mpr (.inr (Int.le_refl _)), fun x hx y hy => by
    have a := wrd_low (w := w) (Nat.le_refl k) x hx
    have b := (List.mem_replicate.mp hy).2
    omega⟩
theorem cnt_rep (n : Nat) (k v : Nat) : cnt (List.replicate n (k : Int)) v = if k < v then n else 0 := by
  by_cases c : k < v
  · rw [if_pos c, cnt_all fun x hx => by have := (List.mem_replicate.mp hx).2; omega]; simp
  · rw [if_neg c, cnt_zero fun x hx => by have := (List.mem_replicate.mp hx).2; omega]
theorem wrd_cnt {w : Nat → Int} (nn : ∀ k, 0 ≤ w k) : ∀ (k v : Nat), (cnt (wrd w k) v : Int) = ps w (min k v)
  | 0, v => by rw [Nat.zero_min]; rfl
  | k + 1, v => by
    have ih := wrd_cnt nn k v
    show (cnt (wrd w k ++ _) v : Int) = _
    rw [cnt_app, cnt_rep]
    have := nn k
    by_cases c : k < v
    · rw [if_pos c, show min (k + 1) v = k + 1 by omega]
      rw [show min k v = k by omega] at ih
      show _ = ps w k + w k
      omega
    · rw [if_neg c, show min (k + 1) v = v by omega]
      rw [show min k v = v by omega] at ih
      omega
theorem wrd_len {w : Nat → Int} (h3 : ∀ k, w k ≤ 3) : ∀ k, (wrd w k).length ≤ 3 * k
  | 0 => Nat.le_refl _
  | k + 1 => by
    have := wrd_len h3 k
    have := h3 k
    simp only [wrd, List.length_append, List.length_replicate]; omega
def twT (w : Nat → Nat → Int) (m : Nat) : Nat → List (List Int)
  | 0 => []
  | i + 1 => pinW (twT w m i) (wrd (w i) m)
theorem twT_tab {w : Nat → Nat → Int} {m : Nat} (nn : ∀ i k, 0 ≤ w i k) : ∀ i, Tab w i m (twT w m i)
  | 0 => tab_nil
  | i + 1 => tab_step (twT_tab nn i) (wrd_srt m) (wrd_low (Nat.le_refl m)) fun v hv => by
    rw [wrd_cnt (nn i), show min m v = v by omega]
theorem twT_sz {w : Nat → Nat → Int} {m : Nat} (h3 : ∀ i k, w i k ≤ 3) : ∀ i, Sz (3 * m * i) (twT w m i)
  | 0 => ⟨by simp [twT], fun r hr => by simp [twT] at hr⟩
  | i + 1 => by
    have a := insW_sz (twT_sz (m := m) h3 i) (wrd (w i) m)
    have b := wrd_len (h3 i) m
    have e : 3 * m * (i + 1) = 3 * m * i + 3 * m := by rw [Nat.mul_add, Nat.mul_one]
    exact ⟨by have := a.1; show (pinW _ _).length ≤ _; omega, fun r hr => by have := a.2 r hr; omega⟩
end Mv
namespace Zm
open PySem Lpp Mv
theorem idx_T {r : List Int} {k : Int} {v : List (List Int)} {at_ : Nat} (hv : v[at_]? = some r) (hr : r.length ≤ 1000) (s : Sto) :
    bd (bd (bd (ixT v (at_ : Int)) fun y24 => (pr (y24.length : Int))) rangeT) (fun z32 => compG z32 (fun x => (bd (bd (ixT v (at_ : Int)) fun y28 => (ixT y28 x)) fun y30 => (bd (getT (some k)) fun y31 => (pr (decide (y31 < y30)))))) (fun x => (pr x))) s = .ok ((idx r k).map fun j : Nat => (j : Int)) s := by
  rw [bd_ok (a := irg r.length) (s' := s)]
  · rw [compG_ok (p := fun x : Int => decide (k < r.getD x.toNat 0)) (g := fun x => x) (by simp; omega) fun x hx => ?_]
    · congr 1
      unfold idx irg
      rw [List.filter_map, List.map_map]
      rfl
    · obtain ⟨j, hj, rfl⟩ := List.mem_map.mp hx
      have hj := List.mem_range.mp hj
      refine ⟨?_, fun _ => rfl⟩
      rw [bd_ok (a := r[j]) (s' := s) (by rw [bd_ok (ix_get hv)]; exact ix_get (List.getElem?_eq_getElem hj)), bd_ok getT_some]
      show R.ok _ s = R.ok (decide (k < r.getD ((j : Int)).toNat 0)) s
      rw [Int.toNat_natCast, List.getD_eq_getElem?_getD, List.getElem?_eq_getElem hj]
      rfl
  · rw [bd_ok (a := (r.length : Int)) (s' := s) (by rw [bd_ok (ix_get hv)]; rfl)]
    exact range_ok (by omega)
abbrev PinS := List (List Int) × Option Int × Int
def pinC (v14 : PinS) : G Bool := (pr v14.2.1.isSome)
def pinF {ρ : Type} (v14 : PinS) : B PinS ρ := (sq (τ := ((List (List Int)))) (if (decide (v14.2.2 = (v14.1.length : Int))) = true then (apB v14.1 ([] : (List Int)) fun rows => (nxB rows)) else (nxB v14.1)) fun (v20 : ((List (List Int)))) => (eb (bd (bd (bd (ixT v20 v14.2.2) fun y24 => (pr (y24.length : Int))) rangeT) fun z32 => compG z32 (fun x => (bd (bd (ixT v20 v14.2.2) fun y28 => (ixT y28 x)) fun y30 => (bd (getT v14.2.1) fun y31 => (pr (decide (y31 < y30)))))) (fun x => (pr x))) fun greater => (sq (τ := ((List (List Int)) × (Option Int) × Int)) (if (decide (greater = ([] : (List Int)))) = true then (app2B v20 v14.2.2 (getT v14.2.1) fun rows1 => (lt none fun letter => (nxB (rows1, letter, v14.2.2)))) else (eb (ixT greater (0 : Int)) fun spot => (eb (bd (ixT v20 v14.2.2) fun y40 => (ixT y40 spot)) fun other => (eb (getT v14.2.1) fun y47 => set2B v20 v14.2.2 spot y47 fun rows2 => (lt ((some other), (v14.2.2 + (1 : Int))) fun v46 => (nxB (rows2, v46.1, v46.2))))))) fun (v35 : ((List (List Int)) × (Option Int) × Int)) => (nxB (v35.1, v35.2.1, v35.2.2)))))
def PinI (R : List (List Int)) (n : Nat) (v : PinS) : Prop := (v.2.1 = none ∧ v.1 = R) ∨ ∃ pre T k, v = (pre ++ T, some k, (pre.length : Int)) ∧ pre ++ pin T (some k) = R ∧ (pre ++ T).length ≤ n ∧ ∀ r ∈ pre ++ T, r.length ≤ n
def pinMu (v : PinS) : Nat := match v.2.1 with
  | none => 0
  | some _ => v.1.length + 1 - v.2.2.toNat
theorem put_loop {n : Nat} (hn : n ≤ 500) {R : List (List Int)} {ρ : Type} {Q : ρ → Prop} (v : PinS) (hv : PinI R n v) : PsB (whileT pinC (pinF (ρ := ρ)) 1000 v) (fun u => u.1 = R) Q := by
  refine pb_whileM (PinI R n) pinMu (fun v hv => ?_) 1000 v hv ?_
  · rcases hv with ⟨h1, h2⟩ | ⟨pre, T, k, rfl, hR, hl, hr⟩
    · exact .inr ⟨fun s => by unfold pinC; rw [h1]; rfl, h2⟩
    · refine .inl ⟨fun s => rfl, ?_⟩
      unfold pinF
      dsimp only
      cases T with
      | nil =>
        have e0 : ((pre.length : Int) = ((pre ++ ([] : List (List Int))).length : Int)) := by simp
        refine pb_sq (P1 := fun u => u = pre ++ [[]]) (pb_t (by simpa using e0) (pb_ap (by omega) (pb_nx (by simp)))) fun u hu => ?_
        subst hu
        have g : (pre ++ [([] : List Int)])[pre.length]? = some [] := by simp
        refine pb_ebE (x := []) (fun s => idx_T g (by simp) s) (pb_sq (P1 := fun u : PinS => u.2.1 = none ∧ u.1 = R) (pb_t (by simp) ?_) fun u hu => pb_nx ⟨.inl hu, ?_⟩)
        · intro s
          refine .inl ⟨(R, none, (pre.length : Int)), ?_, rfl, rfl⟩
          rw [app2_ok g getT_some (by simp)]
          show RB.nx _ s = _
          rw [← hR]
          simp [pin]
        · obtain ⟨u1, u2, u3⟩ := u
          obtain ⟨h1, h2⟩ := hu
          dsimp only at h1
          subst h1
          show 0 < pinMu _
          unfold pinMu
          simp
      | cons r T =>
        refine pb_sq (P1 := fun u => u = pre ++ r :: T) (pb_f (by simp; omega) (pb_nx rfl)) fun u hu => ?_
        subst hu
        have g : (pre ++ r :: T)[pre.length]? = some r := by simp
        have rl : r.length ≤ n := hr r (by simp)
        refine pb_ebE (fun s => idx_T g (by omega) s) ?_
        cases e : idx r k with
        | nil =>
          have b := bump_nil e
          refine pb_sq (P1 := fun u : PinS => u.2.1 = none ∧ u.1 = R) (pb_t (by simp) ?_) fun u hu => pb_nx ⟨.inl hu, ?_⟩
          · intro s
            refine .inl ⟨(R, none, (pre.length : Int)), ?_, rfl, rfl⟩
            rw [app2_ok g getT_some (by omega)]
            show RB.nx _ s = _
            rw [← hR]
            have z : pin T none = T := by cases T <;> rfl
            simp [pin, b, z]
          · obtain ⟨u1, u2, u3⟩ := u
            obtain ⟨h1, h2⟩ := hu
            dsimp only at h1
            subst h1
            show 0 < pinMu _
            unfold pinMu
            simp
            omega
        | cons j l =>
          obtain ⟨jl, b⟩ := bump_at e
          have gj : r[j]? = some (r.getD j 0) := by rw [List.getD_eq_getElem?_getD, List.getElem?_eq_getElem jl]; rfl
          refine pb_sq (P1 := fun u : PinS => u = ((pre ++ [r.set j k]) ++ T, some (r.getD j 0), ((pre ++ [r.set j k]).length : Int))) (pb_f (by simp) (pb_ebE (x := (j : Int)) (fun s => ix_get (i := 0) (by simp)) (pb_ebE (x := r.getD j 0) (fun s => by rw [bd_ok (ix_get g)]; exact ix_get gj) (pb_ebE (x := k) (fun s => getT_some) ?_)))) fun u hu => pb_nx ⟨.inr ⟨pre ++ [r.set j k], T, r.getD j 0, by rw [hu], ?_, ?_, ?_⟩, ?_⟩
          · intro s
            refine .inl ⟨_, ?_, rfl⟩
            rw [set2_ok g jl]
            show RB.nx _ s = _
            simp
          · rw [← hR]
            simp only [pin, b, List.append_assoc, List.singleton_append]
          · simp at hl ⊢; omega
          · intro q hq
            simp only [List.append_assoc, List.singleton_append, List.mem_append, List.mem_cons] at hq
            rcases hq with z | z | z
            · exact hr q (by simp [z])
            · rw [z]; simpa using rl
            · exact hr q (by simp [z])
          · rw [hu]
            unfold pinMu
            simp
            omega
  · rcases hv with ⟨h1, h2⟩ | ⟨pre, T, k, rfl, hR, hl, hr⟩
    · unfold pinMu; rw [h1]; simp
    · unfold pinMu
      dsimp only
      omega
end Zm
set_option linter.all false
set_option autoImplicit false
set_option maxRecDepth 100000
set_option maxHeartbeats 2000000
/-! R31b: rows and lengths; what is due. -/
namespace Zm
open PySem Lpp Mv
def lensT (w : Nat → Nat → Int) (m n : Nat) : List (List Int) := (List.range n).map fun i => (twT w m (i + 1)).map fun r => (r.length : Int)
section
variable {h : List (List Int)} {m : Nat} (H : HallOK h m) (l5 : h.length ≤ 5) (m6 : m ≤ 6) (h3 : ∀ r ∈ h, ∀ x ∈ r, x ≤ 3)
include H l5 m6 h3
theorem rf3 (i k : Nat) : rf h i k ≤ 3 := by
  unfold rf at2
  rw [List.getD_eq_getElem?_getD (l := h)]
  cases e : h[i]? with
  | none => simp
  | some r =>
    rw [Option.getD_some, List.getD_eq_getElem?_getD]
    cases f : r[k]? with
    | none => simp
    | some x => exact h3 r (List.mem_of_getElem? e) x (List.mem_of_getElem? f)
theorem sz500 {i k t : Nat} (hi : i < 5) (hk : k ≤ 6) (ht : t ≤ 3) {l : List Int} (hl : l.length = t) : Sz 200 (pinW (twT (rf h) m i) (wrd (rf h i) k ++ l)) := by
  have a := insW_sz (twT_sz (m := m) (fun i k => rf3 H l5 m6 h3 i k) i) (wrd (rf h i) k ++ l)
  have b := wrd_len (fun k => rf3 H l5 m6 h3 i k) k
  have c : 3 * m * i ≤ 3 * 6 * 4 := Nat.mul_le_mul (Nat.mul_le_mul_left 3 m6) (by omega)
  rw [List.length_append] at a
  exact ⟨by have := a.1; omega, fun r hr => by have := a.2 r hr; omega⟩
theorem tower_T (s : Sto) : g__law_tower h s = .ok (twT (rf h) m h.length, lensT (rf h) m h.length) s := by
  have key : Ps (g__law_tower h) (fun r => r = (twT (rf h) m h.length, lensT (rf h) m h.length)) := by
    unfold g__law_tower
    refine ps_fn (pb_ebE (x := ([], [])) (fun s => rfl) (pb_sq (P1 := fun v => v = (twT (rf h) m h.length, lensT (rf h) m h.length)) ?_ fun v hv => by subst hv; exact pb_rt rfl))
    refine pb_for (fun i v => v = (twT (rf h) m i, lensT (rf h) m i)) rfl (fun i hi v hv => ?_) fun v hv => hv
    subst hv
    have hrow := (H.row _ (List.getElem_mem hi)).1
    have el : (enumT 0 h[i]).length = m := by rw [enumT_len, hrow]
    refine pb_sq (P1 := fun v => v = pinW (twT (rf h) m i) (wrd (rf h i) m)) (pb_for (fun k v => v = pinW (twT (rf h) m i) (wrd (rf h i) k)) rfl (fun k hk v hv => ?_) fun v hv => by rw [el] at hv; exact hv) fun v hv => ?_
    · subst hv
      rw [el] at hk
      have ek : (enumT 0 h[i])[k]'(by rw [el]; exact hk) = ((k : Int), rf h i k) := by
        have e1 := enumT_get h[i] 0 k
        rw [List.getElem?_eq_getElem (by rw [el]; exact hk), List.getElem?_eq_getElem (by omega)] at e1
        simp only [Option.map_some, Option.some.injEq] at e1
        rw [e1]
        simp only [Nat.zero_add]
        congr 1
        unfold rf at2
        rw [List.getD_eq_getElem?_getD (l := h), List.getElem?_eq_getElem hi, Option.getD_some, List.getD_eq_getElem?_getD, List.getElem?_eq_getElem (by omega)]; rfl
      rw [ek]
      dsimp only
      have b3 := rf3 H l5 m6 h3 i k
      have b0 := rf_nnA H i k
      obtain ⟨c, hc⟩ := Int.eq_ofNat_of_zero_le b0
      refine pb_sq (P1 := fun v => v = pinW (twT (rf h) m i) (wrd (rf h i) (k + 1))) ?_ fun v hv => pb_nx hv
      refine pb_ebE (x := irg c) (fun s => by rw [hc]; exact range_ok (by omega)) ?_
      refine pb_for (fun t v => v = pinW (twT (rf h) m i) (wrd (rf h i) k ++ List.replicate t (k : Int))) (by simp) (fun t ht v hv => ?_) fun v hv => ?_
      · subst hv
        rw [irg_len] at ht
        have sz := sz500 H l5 m6 h3 (i := i) (k := k) (t := t) (by omega) (by omega) (by omega) (l := List.replicate t (k : Int)) (by simp)
        refine pb_lt (pb_sq (P1 := fun u : PinS => u.1 = pin (pinW (twT (rf h) m i) (wrd (rf h i) k ++ List.replicate t (k : Int))) (some (k : Int))) (put_loop (n := 200) (by decide) _ (.inr ⟨[], _, _, rfl, rfl, sz.1, sz.2⟩)) fun u hu => pb_nx ?_)
        rw [hu, ← insW_snoc, List.append_assoc, ← List.replicate_succ']
      · rw [irg_len] at hv
        rw [hv]
        show _ = pinW _ (wrd (rf h i) k ++ List.replicate (rf h i k).toNat (k : Int))
        rw [hc, Int.toNat_natCast]
    · subst hv
      have sz := sz500 H l5 m6 h3 (i := i) (k := m) (t := 0) (by omega) m6 (by omega) (l := []) rfl
      rw [List.append_nil] at sz
      refine pb_ebE (fun s => map_ok (by have := sz.1; omega)) (pb_ap (by simp [lensT]; omega) (pb_nx ?_))
      show (_, lensT (rf h) m i ++ _) = (_, _)
      congr 1
      unfold lensT
      rw [List.range_succ, List.map_append]
      rfl
  exact key.one (fun y hy => hy) s
theorem row_cnt (i p : Nat) {v : Nat} (hv : v ≤ m) : (cnt (rw0 (twT (rf h) m i) p) v : Int) = shp (rf h) i v p := (twT_tab (rf_nnA H) i).cn p v hv
theorem row_len (i p : Nat) : ((rw0 (twT (rf h) m i) p).length : Int) = shp (rf h) i m p := by
  have t := twT_tab (m := m) (rf_nnA H) i
  rw [← t.cn p m (Nat.le_refl m), cnt_all fun x hx => (t.low p x hx).2]
theorem pad_take {T : List (List Int)} {f : List Int → Int} (f0 : f [] = 0) {N : Nat} (hN : N ≤ 8) : ((T.map f) ++ List.replicate 8 0).take N = lst (fun p => f (rw0 T p)) N := by
  refine lst_eq (by simp; omega) fun c hc => ?_
  rw [List.getElem?_take, if_pos hc]
  unfold rw0
  by_cases z : c < T.length
  · rw [List.getElem?_append_left (by simpa using z), List.getElem?_map, List.getElem?_eq_getElem z, List.getD_eq_getElem?_getD, List.getElem?_eq_getElem z]; rfl
  · rw [List.getElem?_append_right (by simp; omega), List.getElem?_replicate, if_pos (by simp; omega), List.getD_eq_getElem?_getD, List.getElem?_eq_none (by omega)]
    rw [Option.getD_none, f0]
theorem due_T (s : Sto) : g__law_due_9ac8 h s = .ok (twC (rf h) h.length m, twR (rf h) h.length m) s := by
  have l1 := H.l1; have m1 := H.m1
  have r8 : ∀ s : Sto, repT (0 : Int) (8 : Int) s = .ok (List.replicate 8 0) s := fun s => rep_ok (k := 8) (by decide)
  have szT : ∀ i, i ≤ h.length → Sz 200 (twT (rf h) m i) := fun i hi => by
    have a := twT_sz (m := m) (fun i k => rf3 H l5 m6 h3 i k) i
    have c : 3 * m * i ≤ 3 * 6 * 5 := Nat.mul_le_mul (Nat.mul_le_mul_left 3 m6) (by omega)
    exact ⟨by have := a.1; omega, fun r hr => by have := a.2 r hr; omega⟩
  have key : Ps (g__law_due_9ac8 h) (fun r => r = (twC (rf h) h.length m, twR (rf h) h.length m)) := by
    unfold g__law_due_9ac8
    refine ps_fn (pb_ebE (tower_T H l5 m6 h3) (pb_ebE (x := (h.length : Int)) (fun s => rfl) (pb_ebE (x := (m : Int)) (many_T H) (pb_lt (pb_sq (P1 := fun v => v = twC (rf h) h.length m) ?_ fun v hv => ?_)))))
    · refine pb_ebE (x := (List.range m).map fun k : Nat => ((k + 1 : Nat) : Int)) (fun s => ?_) ?_
      · rw [range2_ok (by omega) (by omega) (by omega) (by omega)]
        congr 1
        rw [show ((m : Int) + 1 - 1).toNat = m by omega]
        exact List.map_congr_left fun k _ => by omega
      · refine pb_for (fun k v => v = (List.range k).map fun k => lst (shp (rf h) h.length (k + 1)) (min (k + 1) h.length)) rfl (fun k hk v hv => ?_) fun v hv => by rw [List.length_map, List.length_range] at hv; exact hv
        subst hv
        rw [List.length_map, List.length_range] at hk
        rw [show ((List.range m).map fun k : Nat => ((k + 1 : Nat) : Int))[k]'(by simpa using hk) = ((k + 1 : Nat) : Int) by simp]
        have sz := szT h.length (Nat.le_refl _)
        refine pb_ebE (x := ((twT (rf h) m h.length).map fun r => ((cnt r (k + 1) : Nat) : Int)) ++ List.replicate 8 0) (fun s => ?_) (pb_ap (by simp; omega) (pb_nx ?_))
        · rw [bd_ok (a := (twT (rf h) m h.length).map fun r => ((cnt r (k + 1) : Nat) : Int)) (s' := s)]
          · rw [bd_ok (a := List.replicate 8 (0 : Int)) (s' := s) (r8 s)]
            exact cat_ok (by have := sz.1; simp; omega)
          · refine mapG_ok (by have := sz.1; show (twT (rf h) m h.length).length ≤ _; omega) fun r hr => ?_
            rw [bd_ok (fil_ok (by have := sz.2 r hr; omega))]
            show R.ok _ s = _
            congr 1
            unfold cnt
            rw [List.length_map]
        · rw [List.range_succ, List.map_append]
          congr 1
          show [_] = [_]
          congr 1
          rw [show min ((k + 1 : Nat) : Int) (h.length : Int) = ((min (k + 1) h.length : Nat) : Int) by omega, cut_to, pad_take H l5 m6 h3 (f := fun r => ((cnt r (k + 1) : Nat) : Int)) rfl (by omega)]
          refine lst_congr fun p hp => ?_
          exact row_cnt H l5 m6 h3 h.length p (by omega)
    · subst hv
      refine pb_lt (pb_sq (P1 := fun v => v = twR (rf h) h.length m) ?_ fun v hv => by subst hv; exact pb_rt rfl)
      refine pb_ebE (x := (List.range h.length).map fun k : Nat => ((k + 1 : Nat) : Int)) (fun s => ?_) ?_
      · rw [range2_ok (by omega) (by omega) (by omega) (by omega)]
        congr 1
        rw [show ((h.length : Int) + 1 - 1).toNat = h.length by omega]
        exact List.map_congr_left fun k _ => by omega
      · refine pb_for (fun k v => v = (List.range k).map fun k => lst (shp (rf h) (k + 1) m) (min (k + 1) m)) rfl (fun k hk v hv => ?_) fun v hv => by rw [List.length_map, List.length_range] at hv; exact hv
        subst hv
        rw [List.length_map, List.length_range] at hk
        rw [show ((List.range h.length).map fun k : Nat => ((k + 1 : Nat) : Int))[k]'(by simpa using hk) = ((k + 1 : Nat) : Int) by simp]
        have sz := szT (k + 1) (by omega)
        have gl : (lensT (rf h) m h.length)[k]? = some ((twT (rf h) m (k + 1)).map fun r => (r.length : Int)) := by simp [lensT, hk]
        refine pb_ebE (x := lst (shp (rf h) (k + 1) m) (min (k + 1) m)) (fun s => ?_) (pb_ap (by simp; omega) (pb_nx ?_))
        · rw [bd_ok (a := lst (shp (rf h) (k + 1) m) (min (k + 1) m)) (s' := s)]
          · rfl
          · rw [bd_ok (a := ((twT (rf h) m (k + 1)).map fun r => (r.length : Int)) ++ List.replicate 8 0) (s' := s)]
            · show R.ok _ s = _
              congr 1
              rw [show min ((k + 1 : Nat) : Int) (m : Int) = ((min (k + 1) m : Nat) : Int) by omega, cut_to, pad_take H l5 m6 h3 (f := fun r => (r.length : Int)) rfl (by omega)]
              refine lst_congr fun p hp => ?_
              exact row_len H l5 m6 h3 (k + 1) p
            · rw [show (((k + 1 : Nat) : Int) - 1) = (k : Int) by omega, bd_ok (ix_get gl), bd_ok (a := List.replicate 8 (0 : Int)) (s' := s) (r8 s)]
              exact cat_ok (by have := sz.1; simp; omega)
        · rw [List.range_succ, List.map_append]
          rfl
  exact key.one (fun y hy => hy) s
end
end Zm
set_option linter.all false
set_option autoImplicit false
set_option maxRecDepth 100000
/-! GT: what repr tells. -/
namespace Zm
open PySem PySem.PyData
def sok (x : Str) : Prop := PyData.strOk x = true
theorem sok_app {x y : Str} (hx : sok x) (hy : sok y) : sok (x ++ y) := by
  unfold sok PyData.strOk at *
  rw [Str.cps_append]
  simp only [Array.all_append, Bool.and_eq_true]
  exact ⟨hx, hy⟩
theorem sok_of (s : String) : sok (Str.ofString s) := by
  unfold sok PyData.strOk
  rw [← Array.all_toList, PyProof.Rows.signs_ofString, List.all_eq_true]
  intro c hc
  obtain ⟨ch, _, rfl⟩ := List.mem_map.mp hc
  have h := ch.valid
  rw [decide_eq_true_eq]
  show ch.val.toNat < 0x110000
  rcases h with h | h
  · omega
  · exact h.2
theorem len_app (x y : Str) : (x ++ y).length = x.length + y.length := strLen_append x y
/-- a list's text -/
theorem from_len : ∀ (ts : List Str) (k : Nat) (acc : Str) (B : Nat), (∀ t ∈ ts, t.length ≤ B ∧ sok t) → sok acc → (textFrom k acc ts).length ≤ acc.length + ts.length * (B + 2) ∧ sok (textFrom k acc ts)
  | [], k, acc, B, _, ha => ⟨by simp [textFrom], ha⟩
  | t :: ts, k, acc, B, h, ha => by
    have h0 := h t (by simp)
    have s2 : sok (acc ++ (if k > 0 then ", " else "" : String) ++ t) := by
      refine sok_app (sok_app ha ?_) h0.2
      split
      · exact sok_of ", "
      · exact sok_of ""
    have e : (acc ++ (if k > 0 then ", " else "" : String) ++ t).length ≤ acc.length + 2 + t.length := by
      rw [len_app, len_app]
      have : (((if k > 0 then ", " else "" : String) : Str)).length ≤ 2 := by split <;> decide
      omega
    obtain ⟨a, b⟩ := from_len ts (k + 1) _ B (fun t ht => h t (by simp [ht])) s2
    refine ⟨?_, b⟩
    show (textFrom (k + 1) _ ts).length ≤ _
    rw [List.length_cons, Nat.succ_mul]
    omega
theorem list_len {ts : List Str} {B : Nat} (h : ∀ t ∈ ts, t.length ≤ B ∧ sok t) : (listText ts).length ≤ ts.length * (B + 2) + 2 ∧ sok (listText ts) := by
  obtain ⟨a, b⟩ := from_len ts 0 "[" B h (sok_of "[")
  unfold listText
  refine ⟨?_, sok_app b (sok_of "]")⟩
  rw [len_app]
  have e1 : (("[" : String) : Str).length = 1 := by decide
  have e2 : (("]" : String) : Str).length = 1 := by decide
  rw [e1] at a; rw [e2]; omega
theorem join_len : ∀ (ts : List Str) (B : Nat), (∀ t ∈ ts, t.length ≤ B ∧ sok t) → (Str.join ", " ts).length ≤ ts.length * (B + 2) ∧ sok (Str.join ", " ts)
  | [], B, _ => ⟨by show (Str.ofString "").length ≤ _; rw [show (Str.ofString "").length = 0 by decide]; omega, sok_of ""⟩
  | [x], B, h => by
    have h0 := h x (by simp)
    exact ⟨by show x.length ≤ _; simp; omega, h0.2⟩
  | x :: y :: r, B, h => by
    have h0 := h x (by simp)
    obtain ⟨a, b⟩ := join_len (y :: r) B fun t ht => h t (by simp [ht])
    have e : Str.join ", " (x :: y :: r) = x ++ ", " ++ Str.join ", " (y :: r) := rfl
    rw [e]
    refine ⟨?_, sok_app (sok_app h0.2 (sok_of ", ")) b⟩
    rw [len_app, len_app]
    have e1 : ((", " : String) : Str).length = 2 := by decide
    rw [e1]
    have : (x :: y :: r).length * (B + 2) = (y :: r).length * (B + 2) + (B + 2) := by rw [List.length_cons, Nat.succ_mul]
    omega
theorem tup_len {ts : List Str} {B : Nat} (h : ∀ t ∈ ts, t.length ≤ B ∧ sok t) : (tupleText ts).length ≤ ts.length * (B + 2) + 3 ∧ sok (tupleText ts) := by
  obtain ⟨a, b⟩ := join_len ts B h
  unfold tupleText
  refine ⟨?_, sok_app (sok_app (sok_of "(") b) (by split; exact sok_of ",)"; exact sok_of ")")⟩
  rw [len_app, len_app]
  have e1 : (("(" : String) : Str).length = 1 := by decide
  have e2 : (((if (ts.length == 1) = true then ",)" else ")" : String)) : Str).length ≤ 2 := by split <;> decide
  rw [e1]; omega
/-- a thing whose text is not too long -/
def RO (d : D) (k B : Nat) : Prop := ∃ x, pd d = some x ∧ x.showable = true ∧ x.hasDict = false ∧ x.depth ≤ k ∧ x.shown.length ≤ B ∧ sok x.shown
theorem RO.mono {d : D} {k B k' B' : Nat} (h : RO d k B) (h1 : k ≤ k') (h2 : B ≤ B') : RO d k' B' := by
  obtain ⟨x, a, b, c, e, f, g⟩ := h
  exact ⟨x, a, b, c, by omega, by omega, g⟩
theorem ro_int {i : Int} (h0 : 0 ≤ i) (h : i < 10 ^ 40) : RO (.int i) 0 40 := by
  refine ⟨.int i, rfl, ?_, by simp [hasDict], by simp [depth], ?_, ?_⟩
  · unfold showable
    rw [decide_eq_true_eq]
    by_cases z : i.natAbs = 0
    · rw [z]; decide
    · refine (Nat.log2_lt z).mpr ?_
      have h1 : i.natAbs < 10 ^ 40 := by omega
      exact Nat.lt_of_lt_of_le h1 (Nat.le_trans (show (10 : Nat) ^ 40 ≤ 2 ^ 160 by decide) (Nat.pow_le_pow_right (by decide) (by decide)))
  · exact PyProof.Rows.toString_length_le h0 (by decide) h
  · exact sok_of _
theorem ro_all : ∀ {ds : List D} {k B : Nat}, (∀ d ∈ ds, RO d k B) → ∃ xs, pds ds = some xs ∧ xs.length = ds.length ∧ showableAll xs = true ∧ hasDictAll xs = false ∧ depthAll xs ≤ k ∧ ∀ t ∈ shownAll xs, t.length ≤ B ∧ sok t
  | [], k, B, _ => ⟨[], rfl, rfl, rfl, rfl, by simp [depthAll], by simp [shownAll]⟩
  | d :: ds, k, B, h => by
    obtain ⟨x, a, b, c, e, f, g⟩ := h d (by simp)
    obtain ⟨xs, a2, l2, b2, c2, e2, f2⟩ := ro_all (ds := ds) fun d hd => h d (by simp [hd])
    refine ⟨x :: xs, by unfold pds; rw [a, a2], by simp [l2], by simp [showableAll, b, b2], by simp [hasDictAll, c, c2], by simp only [depthAll]; omega, fun t ht => ?_⟩
    rw [shownAll, List.mem_cons] at ht
    rcases ht with rfl | ht
    · exact ⟨f, g⟩
    · exact f2 t ht
theorem ro_lst {o : Bool} {ds : List D} {k B n : Nat} (h : ∀ d ∈ ds, RO d k B) (hn : ds.length ≤ n) : RO (.lst o ds) (k + 1) (n * (B + 2) + 2) := by
  obtain ⟨xs, a, l, b, c, e, f⟩ := ro_all h
  have ls : (shownAll xs).length = xs.length := shownAll_length xs
  obtain ⟨g1, g2⟩ := list_len f
  refine ⟨.list xs, by unfold pd; rw [a]; rfl, by simpa [showable] using b, by simpa [hasDict] using c, by simp only [depth]; omega, ?_, by unfold shown; exact g2⟩
  unfold shown
  have : (shownAll xs).length * (B + 2) ≤ n * (B + 2) := Nat.mul_le_mul_right _ (by omega)
  omega
theorem ro_tup {ds : List D} {k B n : Nat} (h : ∀ d ∈ ds, RO d k B) (hn : ds.length ≤ n) : RO (.tup ds) (k + 1) (n * (B + 2) + 3) := by
  obtain ⟨xs, a, l, b, c, e, f⟩ := ro_all h
  have ls : (shownAll xs).length = xs.length := shownAll_length xs
  obtain ⟨g1, g2⟩ := tup_len f
  refine ⟨.tuple xs, by unfold pd; rw [a]; rfl, by simpa [showable] using b, by simpa [hasDict] using c, by simp only [depth]; omega, ?_, by unfold shown; exact g2⟩
  unfold shown
  have : (shownAll xs).length * (B + 2) ≤ n * (B + 2) := Nat.mul_le_mul_right _ (by omega)
  omega
theorem repr_T {d : D} {k B : Nat} (h : RO d k B) (hk : k ≤ 60) (hB : B ≤ 1000000) : ∃ z, sok z ∧ ∀ s, reprX d s = .ok z s := by
  obtain ⟨x, a, b, c, e, f, g⟩ := h
  refine ⟨x.shown, g, fun s => ?_⟩
  unfold reprX gRepr
  simp only [a, Option.bind_some]
  rw [if_pos ⟨b, c, by omega, Nat.le_trans f (Nat.le_trans hB szM)⟩]
theorem sh_str {z : Str} (h : sok z) : shapedD (.str z) = some (.str z) := by
  unfold shapedD
  simp only [pd]
  rw [if_pos]
  unfold SeqAt.shaped
  rw [show PyData.canLay0 (.str z) = true from h]
  simp [depth]
theorem ne_str {z : Str} (h : sok z) (s : Sto) : neX (eS.f z) (eS.f z) s = .ok false s := by
  unfold neX gNe
  rw [show eS.f z = .str z from rfl]
  simp only [sh_str h]
  unfold PyData.eqv
  simp
end Zm
set_option linter.all false
set_option autoImplicit false
set_option maxRecDepth 100000
/-! GSB: draws, with bounds; what repr tells of halls and days. -/
namespace Zm
open PySem
/-- a row of numbers -/
theorem ro_ints {xs : List Int} (h : ∀ x ∈ xs, 0 ≤ x ∧ x < 10 ^ 40) (n : Nat) (hn : xs.length ≤ n) : RO ((eL eI).f xs) 1 (n * 42 + 2) ∧ RO ((eT eI).f xs) 1 (n * 42 + 3) := by
  have : ∀ d ∈ xs.map eI.f, RO d 0 40 := fun d hd => by
    obtain ⟨x, hx, rfl⟩ := List.mem_map.mp hd
    exact ro_int (h x hx).1 (h x hx).2
  exact ⟨ro_lst this (by simpa using hn), ro_tup this (by simpa using hn)⟩
theorem ro_hall {h : List (List Int)} {m : Nat} (H : HallOK h m) (L : Low (10 ^ 20) h) : RO ((eT (eT eI)).f h) 2 2747 := by
  have m8 := H.m8
  have : ∀ d ∈ h.map (eT eI).f, RO d 1 339 := fun d hd => by
    obtain ⟨r, hr, rfl⟩ := List.mem_map.mp hd
    exact (ro_ints (fun x hx => ⟨(H.row r hr).2 x hx, by have := L r hr x hx; omega⟩) 8 (by have := (H.row r hr).1; omega)).2
  exact (ro_tup (n := 8) this (by simpa using H.l8)).mono (Nat.le_refl _) (by decide)
end Zm
set_option linter.all false
set_option autoImplicit false
set_option maxRecDepth 100000
/-! GJ5: draws for the laws of led halls. -/
namespace Zm
open PySem Lpp Mv
end Zm
set_option linter.all false
set_option autoImplicit false
set_option maxRecDepth 100000
/-! GJ6: halls cut, counters of noughts, somebody more. -/
namespace Zm
open PySem Lpp Mv
/-! ### cut between customers -/
/-- led to each other, and so is what is cut from them -/
structure Cut (m : Nat) (h g : List (List Int)) : Prop where
  one : Cls m h g
  cut : ∀ f b, f < b → b ≤ m → Cls (b - f) (cutH f b h) (cutH f b g)
theorem Cut.refl {m : Nat} {h : List (List Int)} (H : HallOK h m) : Cut m h h := ⟨.refl H, fun f b h1 h2 => .refl (hall_cutH H h1 h2)⟩
theorem Cut.trans {m : Nat} {h g k : List (List Int)} (c : Cut m h g) (d : Cut m g k) : Cut m h k := ⟨c.one.trans d.one, fun f b h1 h2 => (c.cut f b h1 h2).trans (d.cut f b h1 h2)⟩
/-! ### a counter of noughts -/
/-! ### somebody more, who comes with the next -/
/-! ### the last counter idle -/
end Zm
set_option linter.all false
set_option autoImplicit false
set_option maxRecDepth 100000
/-! GJ11: gathered halls: read from the end, with an idle counter, times over, with nobody more, cut. -/
namespace Zm
open PySem Lpp Mv
theorem Chn.trans {m : Nat} {h g k : List (List Int)} (c : Chn m h g) (d : Chn m g k) : Chn m h k := by
  induction d with
  | refl _ => exact c
  | step _ hi h1 h2 ih => exact ih.step hi h1 h2
/-! ### from the end -/
/-! ### an idle counter -/
/-! ### times over -/
section
variable {h : List (List Int)} {m i : Nat} (H : HallOK h m) (hi : i + 1 < h.length) {c T : Int} (hc : 0 ≤ c)
include H hi hc
variable (h1 : ps (rf h i) m + ps (rf h (i + 1)) m - gw (rf h i) (rf h (i + 1)) m ≤ T) (h2 : T ≤ gw (rf h i) (rf h (i + 1)) m)
include h1 h2
end
/-! ### nobody more -/
section
variable {h : List (List Int)} {m i w : Nat} (H : HallOK h m) (hi : i + 1 < h.length) {T : Int} (hw : w ≤ m) (h8 : m < 8)
include H hi hw h8
variable (h1 : ps (rf h i) m + ps (rf h (i + 1)) m - gw (rf h i) (rf h (i + 1)) m ≤ T) (h2 : T ≤ gw (rf h i) (rf h (i + 1)) m)
include h1 h2
end
/-! ### fewer customers: not more at the first counters -/
end Zm
set_option linter.all false
set_option autoImplicit false
set_option maxRecDepth 100000
/-! GSI: the shapes are those of the hall in which all is at the last counters; moves change none. -/
namespace Mv
section
variable {w : Nat → Nat → Int}
section
variable (nn : ∀ i k, 0 ≤ w i k)
include nn
end
end
end Mv
namespace Zm
open PySem Lpp Mv
theorem Chn.G0 {m : Nat} {h g : List (List Int)} (c : Chn m h g) : HallOK g m := c.ctx.G
section
variable {w : Nat → Nat → Int} (nn : ∀ i k, 0 ≤ w i k)
include nn
end
end Zm
set_option linter.all false
set_option autoImplicit false
set_option maxRecDepth 100000
/-! GSM: one minute moved: the towers. -/
namespace Mv
end Mv
namespace Zm
open PySem Lpp Mv
end Zm
set_option linter.all false
set_option autoImplicit false
set_option maxRecDepth 100000
/-! GSR: totals of the two ends; the shape of the hall read from its end. -/
namespace Mv
end Mv
namespace Zm
open PySem Lpp Mv
theorem chn_back {h : List (List Int)} {m i : Nat} {T : Int} (H : HallOK h m) (hi : i + 1 < h.length) (h1 : ps (rf h i) m + ps (rf h (i + 1)) m - gw (rf h i) (rf h (i + 1)) m ≤ T) (h2 : T ≤ gw (rf h i) (rf h (i + 1)) m) : Chn m (newH h i m T) h := by
  obtain ⟨n1, n2, n3, n4, n5, n6, n7⟩ := new_facts H hi h1 h2
  have e : newH (newH h i m T) i m (ps (rf h i) m) = h := by rw [new_new H hi h1 h2, new_self H hi]
  have nn := onX_nn H hi
  have hx : onX h i m = gw (rf h i) (rf h (i + 1)) m - ps (rf h (i + 1)) m := rfl
  have hy : offX h i m = gw (rf h i) (rf h (i + 1)) m - ps (rf h i) m := rfl
  have := (Chn.refl n1).step (i := i) (T := ps (rf h i) m) (by omega) (by rw [n3, n4, n5 m (Nat.le_refl _)]; omega) (by rw [n5 m (Nat.le_refl _)]; omega)
  rw [e] at this
  exact this
theorem Chn.symm {m : Nat} {h g : List (List Int)} (c : Chn m h g) : Chn m g h := by
  induction c with
  | refl H => exact .refl H
  | step c hi h1 h2 ih => exact (chn_back c.G0 hi h1 h2).trans ih
end Zm
set_option linter.all false
set_option autoImplicit false
set_option maxRecDepth 100000
/-! GCO: shapes tell a hall; all work in one corner. -/
namespace Mv
section
variable {w v : Nat → Nat → Int}
end
end Mv
namespace Zm
open PySem Lpp Mv
end Zm
set_option linter.all false
set_option autoImplicit false
set_option maxRecDepth 100000
/-! GTW: the table of shapes from its last row and column (the hall of two towers). -/
namespace Mv
section
variable {R C : Nat → Nat → Int} {n m : Nat}
variable (h0 : C 0 = R 0) (hR : ∀ l, l < m → Btw (R (l + 1)) (R l)) (hC : ∀ j, j < n → Btw (C (j + 1)) (C j))
include h0 hR hC
variable (hn : C n = fun _ => 0) (hm : R m = fun _ => 0)
end
/-- rows that lie between one another, f k of the first k -/
structure Twr (W m : Nat) (f : Nat → Nat → Int) : Prop where
  z0 : f 0 = fun _ => 0
  btw : ∀ k, k < m → Btw (f k) (f (k + 1))
  big : ∀ k p, k ≤ m → W ≤ p → f k p = 0
end Mv
set_option linter.all false
set_option autoImplicit false
set_option maxRecDepth 100000
/-! GHB: the hall of two towers, typed (from R32). -/
namespace Zm
open PySem Lpp Mv
section
variable {f f' : Nat → Nat → Int} {n m W : Nat} (t : Twr W m f) (t' : Twr W n f') (e : f m = f' n) (hW : W = min n m) (n1 : 1 ≤ n) (m1 : 1 ≤ m) (n8 : n ≤ 8) (m8 : m ≤ 8)
include t t' e
include hW n1 m1 n8 m8
end
section
variable {f f' : Nat → Nat → Int} {n m W : Nat} (t : Twr W m f) (t' : Twr W n f') (e : f m = f' n)
include t t' e
end
end Zm
set_option linter.all false
set_option autoImplicit false
set_option maxRecDepth 100000
set_option maxHeartbeats 2000000
/-! R31: towers by putting in: the law, as it is typed. -/
namespace Zm
open PySem Lpp Mv
theorem towers_o_T {h : List (List Int)} {m : Nat} (H : HallOK h m) (s : Sto) : g_towers_o h s = .ok (twC (rf h) h.length m, twR (rf h) h.length m) s := by
  have e : g_towers_of_o h s = g_towers_of h s := rfl
  unfold g_towers_o
  exact fnT_rt (by rw [eb_ok (need_hall_T H s), eb_ok (e.trans (towers_of_T H s))]; rfl)
theorem minutes31 {n : Nat} {lot : Int} (h : lot = 0 ∨ lot = 1) : Gets Well n 3 (g__law_minutes n lot) (fun x => 0 ≤ x ∧ x ≤ 3) := by
  have p14 : ∀ s : Sto, powT 10 (14 : Int) s = .ok (10 ^ 14) s := fun s => powC (k := 14) (by decide) s
  unfold g__law_minutes
  refine gets_fn (gb_eb (k := 0) (P1 := fun x => x = 2 ∨ x = 4) (gets_bdE (x := [2, 4, 20, 10 ^ 14, 0]) (fun s => by rw [bd_ok (p14 s)]; rfl) ?_) fun most hm => ?_)
  · rcases h with rfl | rfl
    · exact gets_eq (fun s => ix_get (i := 0) rfl) (.inl rfl)
    · exact gets_eq (fun s => ix_get (i := 1) rfl) (.inr rfl)
  · refine gb_sq (k := 1) (P1 := fun x => x = 2 ∨ x = 4) (gb_if (fun c => absurd c (by simp; omega)) fun c => gb_nx hm) fun most hm => ?_
    refine gb_eb (k := 2) (P1 := fun x => 0 ≤ x ∧ x ≤ 3) (gets_bd (draw_gets (by omega) (by omega)) fun x hx => gets_bd (k := 1) (P := fun y => y = 0 ∨ y = 1) (gets_bd (draw_gets (by decide) (by decide)) fun y hy => gets_pr (by omega)) fun y hy => ?_) fun x hx => gb_rt hx
    rcases hy with rfl | rfl
    · exact gets_eq (fun s => mul_ok (by omega) (by omega) (by decide) (by decide)) (by omega)
    · exact gets_eq (fun s => mul_ok (by omega) (by omega) (by decide) (by decide)) (by omega)
theorem row31 {n : Nat} {lot b : Int} (h : lot = 0 ∨ lot = 1) (hb : 0 ≤ b) (hb8 : b ≤ 8) : Gets Well n 24 (bd (rangeT b) fun z => mapG z (fun k => (g__law_minutes n lot))) (fun r => r.length = b.toNat ∧ Nn r ∧ ∀ x ∈ r, x ≤ 3) :=
  gets_bdE (fun s => range_int (by omega) (by omega)) ((gets_mapG (k' := 24) 3 8 (by simp; omega) (by decide) fun x hx => minutes31 h).mono (Nat.le_refl _) fun ys ⟨y1, y2⟩ => ⟨by simpa using y1, fun x hx => (y2 x hx).1, fun x hx => (y2 x hx).2⟩)
theorem hall31_gets {n : Nat} : Gets Well n 300 (g__law_hall_9811 n 5 6 true) (fun h => ∃ m, HallOK h m ∧ h.length ≤ 5 ∧ m ≤ 6 ∧ ∀ r ∈ h, ∀ x ∈ r, x ≤ 3) := by
  unfold g__law_hall_9811
  refine gets_fn (gb_eb (k := 2) (P1 := fun v : Int × Int => 1 ≤ v.1 ∧ v.1 ≤ 5 ∧ 1 ≤ v.2 ∧ v.2 ≤ 6) (gets_bd (oneD_gets (by omega) (by omega)) fun x hx => gets_bd (oneD_gets (by omega) (by omega)) fun y hy => gets_pr ⟨hx.1, hx.2, hy.1, hy.2⟩) fun v hv => ?_)
  refine gb_eb (k := 1) (P1 := fun lot => lot = 0 ∨ lot = 1) ((draw_gets (w := 2) (by decide) (by decide)).mono (Nat.le_refl _) fun r hr => by omega) fun lot hl => ?_
  refine gb_eb (k := 200) (P1 := fun h => HallOK h v.2.toNat ∧ h.length ≤ 5 ∧ ∀ r ∈ h, ∀ x ∈ r, x ≤ 3) (gets_bd (k := 200) (P := fun h : List (List Int) => h.length = v.1.toNat ∧ ∀ r ∈ h, r.length = v.2.toNat ∧ Nn r ∧ ∀ x ∈ r, x ≤ 3) (gets_bdE (fun s => range_int (by omega) (by omega)) ((gets_mapG (k' := 200) 24 8 (by simp; omega) (by decide) fun x hx => gets_bd (row31 hl (by omega) (by omega)) fun r hr => gets_pr hr).mono (Nat.le_refl _) fun ys ⟨y1, y2⟩ => ⟨by simpa using y1, y2⟩)) fun h hh => gets_pr ⟨⟨by omega, by omega, by omega, by omega, fun r hr => ⟨(hh.2 r hr).1, (hh.2 r hr).2.1⟩⟩, by omega, fun r hr => (hh.2 r hr).2.2⟩) fun h hh => gb_rt ⟨_, hh.1, hh.2.1, by omega, hh.2.2⟩
theorem alike_rows31 {n : Nat} (h : List (List Int)) (hh : h.length ≤ 1000) (hr : ∀ r ∈ h, r.length ≤ 1000) {s : Sto} : f__law_alike_8dc4_r (n + 3) [(eL (eT eI)).f h, (eL (eT eI)).f h] s = .ok (.bl true) s := by
  refine alike3_seq (ds := h.map (eT eI).f) ((eL (eT eI)).h h) (.inl rfl) (by simp [eL]) (by simpa using hh) (fun j hj => ?_) fun e he => ?_
  · show L2.atI (h.map (eT eI).f) (j : Int) = _
    rw [atI_nat, List.getElem?_eq_getElem hj]
  · obtain ⟨x, hx, rfl⟩ := List.mem_map.mp he
    exact alike_row x (hr x hx)
theorem alike_one31 {a : List (List Int)} (ha : a.length ≤ 1000) (hr : ∀ r ∈ a, r.length ≤ 1000) (s : Sto) : g__law_alike_8dc4 ((eL (eT eI)).f a) ((eL (eT eI)).f a) s = .ok true s := by
  unfold g__law_alike_8dc4
  rw [(eL (eT eI)).h a, show f__law_alike_8dc4 [(eL (eT eI)).f a, (eL (eT eI)).f a] s = _ from alike_rows31 (n := 5) a ha hr]
theorem alike_two31 {a b : List (List Int)} (ha : a.length ≤ 1000) (hr : ∀ r ∈ a, r.length ≤ 1000) (hb : b.length ≤ 1000) (hq : ∀ r ∈ b, r.length ≤ 1000) (s : Sto) :
    g__law_alike_8dc4 ((eP (eL (eT eI)) (eL (eT eI))).f (a, b)) ((eP (eL (eT eI)) (eL (eT eI))).f (a, b)) s = .ok true s := by
  unfold g__law_alike_8dc4
  rw [(eP (eL (eT eI)) (eL (eT eI))).h (a, b)]
  have : f__law_alike_8dc4 [(eP (eL (eT eI)) (eL (eT eI))).f (a, b), (eP (eL (eT eI)) (eL (eT eI))).f (a, b)] s = .ok (.bl true) s := by
    refine alike3_seq (n := 7) (ds := [(eL (eT eI)).f a, (eL (eT eI)).f b]) ((eP (eL (eT eI)) (eL (eT eI))).h (a, b)) (.inr rfl) (by simp [eP]) (by simp) (fun j hj => ?_) fun e he => ?_
    · show L2.atI [(eL (eT eI)).f a, (eL (eT eI)).f b] (j : Int) = _
      rw [atI_nat, List.getElem?_eq_getElem hj]
    · simp only [List.mem_cons, List.not_mem_nil, or_false] at he
      rcases he with rfl | rfl
      · exact alike_rows31 (n := 4) a ha hr
      · exact alike_rows31 (n := 4) b hb hq
  rw [this]
theorem law_gets (ns : List Int) : Gets W0t 0 0 (g_law ns) (fun z => z = true) := by
  unfold g_law
  refine gets_fn (gb_sq (k := 0) (P1 := fun _ => True) (gb_ebE (fun s => range_int (by omega) (by omega)) (gb_forN (fun _ _ => True) 0 6 (by simp; omega) trivial (fun i hi v _ => ?_) fun _ _ => trivial)) fun _ _ => gb_rt rfl)
  rw [irg_len] at hi
  rw [show (irg (max 1 (min 6 (ns.length : Int))).toNat)[i]'(by simpa using hi) = (i : Int) by simp [irg]]
  refine gb_new (W := Well) (K := 1000) (fun s => ?_) fun n => ?_
  · obtain ⟨c, e, _⟩ := cell_at_T (ns := ns) (k := (i : Int)) (by omega) s
    obtain ⟨n, s', e2, w⟩ := bag1_ok (c := c + 6) s
    exact ⟨n, s', by rw [bd_ok (a := c + 6) (s' := s) (by rw [bd_ok e]; rfl)]; exact e2, w⟩
  refine gb_eb hall31_gets fun h ⟨m, H, l5, m6, h3⟩ => ?_
  have l1 := H.l1; have m1 := H.m1
  have lw : Low (10 ^ 20) h := fun r hr x hx => by have := h3 r hr x hx; omega
  obtain ⟨z, zs, ze⟩ := repr_T (ro_hall H lw) (by decide) (by decide)
  refine gb_ebE ze (gb_ebE (due_T H l5 m6 h3) (gb_ebE (towers_o_T H) ?_))
  have cl : (twC (rf h) h.length m).length ≤ 1000 := by rw [twC_len]; omega
  have rl : (twR (rf h) h.length m).length ≤ 1000 := by rw [twR_len]; omega
  have cs : ∀ r ∈ twC (rf h) h.length m, r.length ≤ 1000 := fun r hr => by
    obtain ⟨k, hk, rfl⟩ := List.mem_map.mp hr
    rw [lst_len]; omega
  have rs : ∀ r ∈ twR (rf h) h.length m, r.length ≤ 1000 := fun r hr => by
    obtain ⟨k, hk, rfl⟩ := List.mem_map.mp hr
    rw [lst_len]; omega
  refine gb_ifF (fun s => ?_) ?_
  · rw [orG_ff (z := false) (s1 := s) (s' := s) (notG_ok (z := true) (alike_two31 cl cs rl rs s))]
    rw [bd_ok (ze s)]; exact ne_str zs s
  · intro s C hw hc
    have e0 : ∀ (q : D × List (List Int) → B Unit Bool), apJ0 (eT eI) (twC (rf h) h.length m, twR (rf h) h.length m) 1 q s = q (.lst false ((twC (rf h) h.length m).map (eT eI).f ++ [.int 1]), twR (rf h) h.length m) s := fun q => by
      unfold apJ0
      rw [if_pos (Nat.lt_of_le_of_lt cl (Nat.lt_of_lt_of_le (by decide : 1000 < 1000000) szM))]
    rw [e0]
    refine gb_ifF (W := Well) (n := n) (k := 1000 - 300) (P := fun _ => True) (Q := fun z => z = true) (fun s => ?_) ?_ s C hw hc
    · exact notG_ok (z := true) (alike_one31 rl rs s)
    · intro s C hw hc
      have e1 : ∀ (q : D × D → B Unit Bool), apJ1 (eT eI) (D.lst false ((twC (rf h) h.length m).map (eT eI).f ++ [.int 1]), twR (rf h) h.length m) 2 q s = q (.lst false ((twC (rf h) h.length m).map (eT eI).f ++ [.int 1]), .lst false ((twR (rf h) h.length m).map (eT eI).f ++ [.int 2])) s := fun q => by
        unfold apJ1
        rw [if_pos (Nat.lt_of_le_of_lt rl (Nat.lt_of_lt_of_le (by decide : 1000 < 1000000) szM))]
      rw [e1]
      refine gb_ifF (W := Well) (n := n) (k := 1000 - 300) (P := fun _ => True) (Q := fun z => z = true) (fun s => ?_) (gb_nx trivial) s C hw hc
      refine notG_ok (z := true) ?_
      rw [bd_ok (a := (eP (eL (eT eI)) (eL (eT eI))).f (twC (rf h) h.length m, twR (rf h) h.length m)) (s' := s) (by rw [bd_ok (towers_o_T H s)]; rfl)]
      exact alike_two31 cl cs rl rs s
theorem law_good : ∀ ns : List Int, ns.length ≤ 63 → ∃ s, f_law [.ro ns] [] = .ok (.bl true) s := good_of (fun ns s => tf_law (rp_ro ns) s) law_gets
end Zm
set_option Elab.async false
set_option linter.all false
set_option maxRecDepth 100000
set_option autoImplicit false
namespace Zm
open PySem PySem.Spec PyProof.Rows L2
theorem all_mk {P : Program} {w : World} {K : PySem.W.Frag} {h : Heap} {mg : Str → Option Value} {fa : Addr} {f0 : Addr} {od0 an0 : Option Addr} {sl0 : Array (Option Value)} {oc0 kV0 dc0 pm0 cd0 ct0 : Value} {f1 : Addr} {od1 an1 : Option Addr} {sl1 : Array (Option Value)} {oc1 kV1 dc1 pm1 cd1 ct1 : Value} {f2 : Addr} {od2 an2 : Option Addr} {sl2 : Array (Option Value)} {oc2 kV2 dc2 pm2 cd2 ct2 : Value} {f3 : Addr} {od3 an3 : Option Addr} {sl3 : Array (Option Value)} {oc3 kV3 dc3 pm3 cd3 ct3 : Value} {f4 : Addr} {od4 an4 : Option Addr} {sl4 : Array (Option Value)} {oc4 kV4 dc4 pm4 cd4 ct4 : Value} {f5 : Addr} {od5 an5 : Option Addr} {sl5 : Array (Option Value)} {oc5 kV5 dc5 pm5 cd5 ct5 : Value} {f6 : Addr} {od6 an6 : Option Addr} {sl6 : Array (Option Value)} {oc6 kV6 dc6 pm6 cd6 ct6 : Value} {f7 : Addr} {od7 an7 : Option Addr} {sl7 : Array (Option Value)} {oc7 kV7 dc7 pm7 cd7 ct7 : Value} {f8 : Addr} {od8 an8 : Option Addr} {sl8 : Array (Option Value)} {oc8 kV8 dc8 pm8 cd8 ct8 : Value} {f9 : Addr} {od9 an9 : Option Addr} {sl9 : Array (Option Value)} {oc9 kV9 dc9 pm9 cd9 ct9 : Value} {f10 : Addr} {od10 an10 : Option Addr} {sl10 : Array (Option Value)} {oc10 kV10 dc10 pm10 cd10 ct10 : Value} {f11 : Addr} {od11 an11 : Option Addr} {sl11 : Array (Option Value)} {oc11 kV11 dc11 pm11 cd11 ct11 : Value} {f12 : Addr} {od12 an12 : Option Addr} {sl12 : Array (Option Value)} {oc12 kV12 dc12 pm12 cd12 ct12 : Value} {f13 : Addr} {od13 an13 : Option Addr} {sl13 : Array (Option Value)} {oc13 kV13 dc13 pm13 cd13 ct13 : Value} {f14 : Addr} {od14 an14 : Option Addr} {sl14 : Array (Option Value)} {oc14 kV14 dc14 pm14 cd14 ct14 : Value} {f15 : Addr} {od15 an15 : Option Addr} {sl15 : Array (Option Value)} {oc15 kV15 dc15 pm15 cd15 ct15 : Value} {f16 : Addr} {od16 an16 : Option Addr} {sl16 : Array (Option Value)} {oc16 kV16 dc16 pm16 cd16 ct16 : Value} {f17 : Addr} {od17 an17 : Option Addr} {sl17 : Array (Option Value)} {oc17 kV17 dc17 pm17 cd17 ct17 : Value} {f18 : Addr} {od18 an18 : Option Addr} {sl18 : Array (Option Value)} {oc18 kV18 dc18 pm18 cd18 ct18 : Value} {t_MOST_COUNTERS : Tok} {t_MOST_CUSTOMERS : Tok} (X : K.In h) (G : h.Ns mainGlobals mg) (hfa : mg "law" = some (.ref fa))
    (a0 : PySem.W.nsIn K mainGlobals "_law_bag" = some (some (.ref f0))) (l0 : K.lookup f0 = some ⟨oc0, od0, .func (PySem.W.fnOf "_law_bag" "_law_bag" (defArgs (kst 20)) (defBody (kst 20)) (defScope (kst 20)) .none kV0 dc0 pm0 an0 cd0 ct0), sl0⟩) (c0 : PySem.W.codeIn K cd0 "_law_bag" = true) (k0 : PySem.W.keepIn K (.ref f0) = true)
    (a1 : PySem.W.nsIn K mainGlobals "_law_draw" = some (some (.ref f1))) (l1 : K.lookup f1 = some ⟨oc1, od1, .func (PySem.W.fnOf "_law_draw" "_law_draw" (defArgs (kst 21)) (defBody (kst 21)) (defScope (kst 21)) .none kV1 dc1 pm1 an1 cd1 ct1), sl1⟩) (c1 : PySem.W.codeIn K cd1 "_law_draw" = true) (k1 : PySem.W.keepIn K (.ref f1) = true)
    (a2 : PySem.W.nsIn K mainGlobals "_law_minutes" = some (some (.ref f2))) (l2 : K.lookup f2 = some ⟨oc2, od2, .func (PySem.W.fnOf "_law_minutes" "_law_minutes" (defArgs (kst 22)) (defBody (kst 22)) (defScope (kst 22)) .none kV2 dc2 pm2 an2 cd2 ct2), sl2⟩) (c2 : PySem.W.codeIn K cd2 "_law_minutes" = true) (k2 : PySem.W.keepIn K (.ref f2) = true)
    (a3 : PySem.W.nsIn K mainGlobals "_law_hall" = some (some (.ref f3))) (l3 : K.lookup f3 = some ⟨oc3, od3, .func (PySem.W.fnOf "_law_hall" "_law_hall" (defArgs (kst 23)) (defBody (kst 23)) (defScope (kst 23)) .none kV3 dc3 pm3 an3 cd3 ct3), sl3⟩) (c3 : PySem.W.codeIn K cd3 "_law_hall" = true) (k3 : PySem.W.keepIn K (.ref f3) = true)
    (a4 : PySem.W.nsIn K mainGlobals "_law_tower" = some (some (.ref f4))) (l4 : K.lookup f4 = some ⟨oc4, od4, .func (PySem.W.fnOf "_law_tower" "_law_tower" (defArgs (kst 24)) (defBody (kst 24)) (defScope (kst 24)) .none kV4 dc4 pm4 an4 cd4 ct4), sl4⟩) (c4 : PySem.W.codeIn K cd4 "_law_tower" = true) (k4 : PySem.W.keepIn K (.ref f4) = true)
    (a5 : PySem.W.nsIn K mainGlobals "_law_due" = some (some (.ref f5))) (l5 : K.lookup f5 = some ⟨oc5, od5, .func (PySem.W.fnOf "_law_due" "_law_due" (defArgs (kst 26)) (defBody (kst 26)) (defScope (kst 26)) .none kV5 dc5 pm5 an5 cd5 ct5), sl5⟩) (c5 : PySem.W.codeIn K cd5 "_law_due" = true) (k5 : PySem.W.keepIn K (.ref f5) = true)
    (a6 : PySem.W.nsIn K mainGlobals "is_whole" = some (some (.ref f6))) (l6 : K.lookup f6 = some ⟨oc6, od6, .func (PySem.W.fnOf "is_whole" "is_whole" (defArgs (kst 6)) (defBody (kst 6)) (defScope (kst 6)) .none kV6 dc6 pm6 an6 cd6 ct6), sl6⟩) (c6 : PySem.W.codeIn K cd6 "is_whole" = true) (k6 : PySem.W.keepIn K (.ref f6) = true)
    (a7 : PySem.W.nsIn K mainGlobals "is_amount" = some (some (.ref f7))) (l7 : K.lookup f7 = some ⟨oc7, od7, .func (PySem.W.fnOf "is_amount" "is_amount" (defArgs (kst 7)) (defBody (kst 7)) (defScope (kst 7)) .none kV7 dc7 pm7 an7 cd7 ct7), sl7⟩) (c7 : PySem.W.codeIn K cd7 "is_amount" = true) (k7 : PySem.W.keepIn K (.ref f7) = true)
    (a8 : PySem.W.nsIn K mainGlobals "is_row" = some (some (.ref f8))) (l8 : K.lookup f8 = some ⟨oc8, od8, .func (PySem.W.fnOf "is_row" "is_row" (defArgs (kst 8)) (defBody (kst 8)) (defScope (kst 8)) .none kV8 dc8 pm8 an8 cd8 ct8), sl8⟩) (c8 : PySem.W.codeIn K cd8 "is_row" = true) (k8 : PySem.W.keepIn K (.ref f8) = true)
    (a9 : PySem.W.nsIn K mainGlobals "is_hall" = some (some (.ref f9))) (l9 : K.lookup f9 = some ⟨oc9, od9, .func (PySem.W.fnOf "is_hall" "is_hall" (defArgs (kst 9)) (defBody (kst 9)) (defScope (kst 9)) .none kV9 dc9 pm9 an9 cd9 ct9), sl9⟩) (c9 : PySem.W.codeIn K cd9 "is_hall" = true) (k9 : PySem.W.keepIn K (.ref f9) = true)
    (a10 : PySem.W.nsIn K mainGlobals "need_hall" = some (some (.ref f10))) (l10 : K.lookup f10 = some ⟨oc10, od10, .func (PySem.W.fnOf "need_hall" "need_hall" (defArgs (kst 10)) (defBody (kst 10)) (defScope (kst 10)) .none kV10 dc10 pm10 an10 cd10 ct10), sl10⟩) (c10 : PySem.W.codeIn K cd10 "need_hall" = true) (k10 : PySem.W.keepIn K (.ref f10) = true)
    (a11 : PySem.W.nsIn K mainGlobals "next_shape" = some (some (.ref f11))) (l11 : K.lookup f11 = some ⟨oc11, od11, .func (PySem.W.fnOf "next_shape" "next_shape" (defArgs (kst 12)) (defBody (kst 12)) (defScope (kst 12)) .none kV11 dc11 pm11 an11 cd11 ct11), sl11⟩) (c11 : PySem.W.codeIn K cd11 "next_shape" = true) (k11 : PySem.W.keepIn K (.ref f11) = true)
    (a12 : PySem.W.nsIn K mainGlobals "shapes" = some (some (.ref f12))) (l12 : K.lookup f12 = some ⟨oc12, od12, .func (PySem.W.fnOf "shapes" "shapes" (defArgs (kst 13)) (defBody (kst 13)) (defScope (kst 13)) .none kV12 dc12 pm12 an12 cd12 ct12), sl12⟩) (c12 : PySem.W.codeIn K cd12 "shapes" = true) (k12 : PySem.W.keepIn K (.ref f12) = true)
    (a13 : PySem.W.nsIn K mainGlobals "trimmed" = some (some (.ref f13))) (l13 : K.lookup f13 = some ⟨oc13, od13, .func (PySem.W.fnOf "trimmed" "trimmed" (defArgs (kst 15)) (defBody (kst 15)) (defScope (kst 15)) .none kV13 dc13 pm13 an13 cd13 ct13), sl13⟩) (c13 : PySem.W.codeIn K cd13 "trimmed" = true) (k13 : PySem.W.keepIn K (.ref f13) = true)
    (a14 : PySem.W.nsIn K mainGlobals "towers_of" = some (some (.ref f14))) (l14 : K.lookup f14 = some ⟨oc14, od14, .func (PySem.W.fnOf "towers_of" "towers_of" (defArgs (kst 16)) (defBody (kst 16)) (defScope (kst 16)) .none kV14 dc14 pm14 an14 cd14 ct14), sl14⟩) (c14 : PySem.W.codeIn K cd14 "towers_of" = true) (k14 : PySem.W.keepIn K (.ref f14) = true)
    (a15 : PySem.W.nsIn K mainGlobals "towers" = some (some (.ref f15))) (l15 : K.lookup f15 = some ⟨oc15, od15, .func (PySem.W.fnOf "towers" "towers" (defArgs (kst 17)) (defBody (kst 17)) (defScope (kst 17)) .none kV15 dc15 pm15 an15 cd15 ct15), sl15⟩) (c15 : PySem.W.codeIn K cd15 "towers" = true) (k15 : PySem.W.keepIn K (.ref f15) = true)
    (a16 : PySem.W.nsIn K mainGlobals "_law_alike" = some (some (.ref f16))) (l16 : K.lookup f16 = some ⟨oc16, od16, .func (PySem.W.fnOf "_law_alike" "_law_alike" (defArgs (kst 25)) (defBody (kst 25)) (defScope (kst 25)) .none kV16 dc16 pm16 an16 cd16 ct16), sl16⟩) (c16 : PySem.W.codeIn K cd16 "_law_alike" = true) (k16 : PySem.W.keepIn K (.ref f16) = true)
    (a17 : PySem.W.nsIn K mainGlobals "_law_cell_at" = some (some (.ref f17))) (l17 : K.lookup f17 = some ⟨oc17, od17, .func (PySem.W.fnOf "_law_cell_at" "_law_cell_at" (defArgs (kst 19)) (defBody (kst 19)) (defScope (kst 19)) .none kV17 dc17 pm17 an17 cd17 ct17), sl17⟩) (c17 : PySem.W.codeIn K cd17 "_law_cell_at" = true) (k17 : PySem.W.keepIn K (.ref f17) = true)
    (a18 : PySem.W.nsIn K mainGlobals "law" = some (some (.ref f18))) (l18 : K.lookup f18 = some ⟨oc18, od18, .func (PySem.W.fnOf "law" "law" (defArgs (kst 27)) (defBody (kst 27)) (defScope (kst 27)) .none kV18 dc18 pm18 an18 cd18 ct18), sl18⟩) (c18 : PySem.W.codeIn K cd18 "law" = true) (k18 : PySem.W.keepIn K (.ref f18) = true)
    (z_all : PySem.W.nsIn K mainGlobals "all" = some none)
    (z_bool : PySem.W.nsIn K mainGlobals "bool" = some none)
    (z_enumerate : PySem.W.nsIn K mainGlobals "enumerate" = some none)
    (z_int : PySem.W.nsIn K mainGlobals "int" = some none)
    (z_isinstance : PySem.W.nsIn K mainGlobals "isinstance" = some none)
    (z_len : PySem.W.nsIn K mainGlobals "len" = some none)
    (z_list : PySem.W.nsIn K mainGlobals "list" = some none)
    (z_max : PySem.W.nsIn K mainGlobals "max" = some none)
    (z_min : PySem.W.nsIn K mainGlobals "min" = some none)
    (z_range : PySem.W.nsIn K mainGlobals "range" = some none)
    (z_repr : PySem.W.nsIn K mainGlobals "repr" = some none)
    (z_tuple : PySem.W.nsIn K mainGlobals "tuple" = some none)
    (z_zip : PySem.W.nsIn K mainGlobals "zip" = some none)
    (q_MOST_COUNTERS : PySem.W.nsIn K mainGlobals "MOST_COUNTERS" = some (some (.int 8 t_MOST_COUNTERS)))
    (q_MOST_CUSTOMERS : PySem.W.nsIn K mainGlobals "MOST_CUSTOMERS" = some (some (.int 8 t_MOST_CUSTOMERS))) :
    ∃ fd : FuncData, (∀ (s : Shared) (u : Value), BindsTo s fd ⟨[u], []⟩ [("script", u)]) ∧ ∀ base : Heap, K.In base → base.Ns mainGlobals mg → FnG P w K mg base 10 fa fd ["script"] (spF K mg f_law) := by
  have e := hfa.symm.trans (PySem.W.mg_of X G a18)
  cases e
  have T : Txt K mg := ⟨⟨f0, _, PySem.W.mg_of X G a0, fun_mk (st := kst 20) l0 c0 k0⟩, ⟨f1, _, PySem.W.mg_of X G a1, fun_mk (st := kst 21) l1 c1 k1⟩, ⟨f2, _, PySem.W.mg_of X G a2, fun_mk (st := kst 22) l2 c2 k2⟩, ⟨f3, _, PySem.W.mg_of X G a3, fun_mk (st := kst 23) l3 c3 k3⟩, ⟨f4, _, PySem.W.mg_of X G a4, fun_mk (st := kst 24) l4 c4 k4⟩, ⟨f5, _, PySem.W.mg_of X G a5, fun_mk (st := kst 26) l5 c5 k5⟩, ⟨f6, _, PySem.W.mg_of X G a6, fun_mk (st := kst 6) l6 c6 k6⟩, ⟨f7, _, PySem.W.mg_of X G a7, fun_mk (st := kst 7) l7 c7 k7⟩, ⟨f8, _, PySem.W.mg_of X G a8, fun_mk (st := kst 8) l8 c8 k8⟩, ⟨f9, _, PySem.W.mg_of X G a9, fun_mk (st := kst 9) l9 c9 k9⟩, ⟨f10, _, PySem.W.mg_of X G a10, fun_mk (st := kst 10) l10 c10 k10⟩, ⟨f11, _, PySem.W.mg_of X G a11, fun_mk (st := kst 12) l11 c11 k11⟩, ⟨f12, _, PySem.W.mg_of X G a12, fun_mk (st := kst 13) l12 c12 k12⟩, ⟨f13, _, PySem.W.mg_of X G a13, fun_mk (st := kst 15) l13 c13 k13⟩, ⟨f14, _, PySem.W.mg_of X G a14, fun_mk (st := kst 16) l14 c14 k14⟩, ⟨f15, _, PySem.W.mg_of X G a15, fun_mk (st := kst 17) l15 c15 k15⟩, ⟨f16, _, PySem.W.mg_of X G a16, fun_mk (st := kst 25) l16 c16 k16⟩, ⟨f17, _, PySem.W.mg_of X G a17, fun_mk (st := kst 19) l17 c17 k17⟩, PySem.W.mg_none_of X G z_all, PySem.W.mg_none_of X G z_bool, PySem.W.mg_none_of X G z_enumerate, PySem.W.mg_none_of X G z_int, PySem.W.mg_none_of X G z_isinstance, PySem.W.mg_none_of X G z_len, PySem.W.mg_none_of X G z_list, PySem.W.mg_none_of X G z_max, PySem.W.mg_none_of X G z_min, PySem.W.mg_none_of X G z_range, PySem.W.mg_none_of X G z_repr, PySem.W.mg_none_of X G z_tuple, PySem.W.mg_none_of X G z_zip, ⟨t_MOST_COUNTERS, PySem.W.mg_of X G q_MOST_COUNTERS⟩, ⟨t_MOST_CUSTOMERS, PySem.W.mg_of X G q_MOST_CUSTOMERS⟩⟩
  exact ⟨_, fun s v => .of_eq rfl, fun base _ _ => ok_law T (fun_mk (st := kst 27) l18 c18 k18)⟩
end Zm
open PySem PySem.W PyProof.Rows
set_option maxHeartbeats 0 in
theorem PySem.Challenge.cw_movedminutes_k31_towers_by_putting_in_holds : PySem.Challenge.rw_movedminutes_k31_towers_by_putting_in.Holds := by
  w_on; o_law; k_head; (case hw => w_witness2)
  k_fill
  refine Zm.walk_ofG (l := PySem.Challenge.rw_movedminutes_k31_towers_by_putting_in) (n := 63) (k := 10) (x := "script") (m := Zm.f_law) rfl (by decide) rfl ⟨rfl, by decide, by decide⟩ (fun w h Y => PySem.W.kIn_of Y) ?F Zm.law_good
  case F =>
    intro w mg fa h KX G hmg
    refine' Zm.all_mk KX G hmg ?a0 ?l0 ?c0 ?k0 ?a1 ?l1 ?c1 ?k1 ?a2 ?l2 ?c2 ?k2 ?a3 ?l3 ?c3 ?k3 ?a4 ?l4 ?c4 ?k4 ?a5 ?l5 ?c5 ?k5 ?a6 ?l6 ?c6 ?k6 ?a7 ?l7 ?c7 ?k7 ?a8 ?l8 ?c8 ?k8 ?a9 ?l9 ?c9 ?k9 ?a10 ?l10 ?c10 ?k10 ?a11 ?l11 ?c11 ?k11 ?a12 ?l12 ?c12 ?k12 ?a13 ?l13 ?c13 ?k13 ?a14 ?l14 ?c14 ?k14 ?a15 ?l15 ?c15 ?k15 ?a16 ?l16 ?c16 ?k16 ?a17 ?l17 ?c17 ?k17 ?a18 ?l18 ?c18 ?k18 ?z_all ?z_bool ?z_enumerate ?z_int ?z_isinstance ?z_len ?z_list ?z_max ?z_min ?z_range ?z_repr ?z_tuple ?z_zip ?q_MOST_COUNTERS ?q_MOST_CUSTOMERS
    (case a0 => k_is)
    (case l0 => k_is)
    (case c0 => k_is)
    (case k0 => k_is)
    (case a1 => k_is)
    (case l1 => k_is)
    (case c1 => k_is)
    (case k1 => k_is)
    (case a2 => k_is)
    (case l2 => k_is)
    (case c2 => k_is)
    (case k2 => k_is)
    (case a3 => k_is)
    (case l3 => k_is)
    (case c3 => k_is)
    (case k3 => k_is)
    (case a4 => k_is)
    (case l4 => k_is)
    (case c4 => k_is)
    (case k4 => k_is)
    (case a5 => k_is)
    (case l5 => k_is)
    (case c5 => k_is)
    (case k5 => k_is)
    (case a6 => k_is)
    (case l6 => k_is)
    (case c6 => k_is)
    (case k6 => k_is)
    (case a7 => k_is)
    (case l7 => k_is)
    (case c7 => k_is)
    (case k7 => k_is)
    (case a8 => k_is)
    (case l8 => k_is)
    (case c8 => k_is)
    (case k8 => k_is)
    (case a9 => k_is)
    (case l9 => k_is)
    (case c9 => k_is)
    (case k9 => k_is)
    (case a10 => k_is)
    (case l10 => k_is)
    (case c10 => k_is)
    (case k10 => k_is)
    (case a11 => k_is)
    (case l11 => k_is)
    (case c11 => k_is)
    (case k11 => k_is)
    (case a12 => k_is)
    (case l12 => k_is)
    (case c12 => k_is)
    (case k12 => k_is)
    (case a13 => k_is)
    (case l13 => k_is)
    (case c13 => k_is)
    (case k13 => k_is)
    (case a14 => k_is)
    (case l14 => k_is)
    (case c14 => k_is)
    (case k14 => k_is)
    (case a15 => k_is)
    (case l15 => k_is)
    (case c15 => k_is)
    (case k15 => k_is)
    (case a16 => k_is)
    (case l16 => k_is)
    (case c16 => k_is)
    (case k16 => k_is)
    (case a17 => k_is)
    (case l17 => k_is)
    (case c17 => k_is)
    (case k17 => k_is)
    (case a18 => k_is)
    (case l18 => k_is)
    (case c18 => k_is)
    (case k18 => k_is)
    (case z_all => k_is)
    (case z_bool => k_is)
    (case z_enumerate => k_is)
    (case z_int => k_is)
    (case z_isinstance => k_is)
    (case z_len => k_is)
    (case z_list => k_is)
    (case z_max => k_is)
    (case z_min => k_is)
    (case z_range => k_is)
    (case z_repr => k_is)
    (case z_tuple => k_is)
    (case z_zip => k_is)
    (case q_MOST_COUNTERS => k_is)
    (case q_MOST_CUSTOMERS => k_is)
